import PyProof.Rows.All
import Wide.All
import OpenK.AllK
import Wide.FinOn
import HandS.Deep
import HandS.DictComp
import HandS.Flow
import HandS.ForMost
import HandS.HeadEnd
import HandS.IsInst
import HandS.Small
import HandS.SortInts
import HandS.Style
import HandS.Text
import PySem.Challenge.RW_circlesettle_k17_rounds_from_above
set_option Elab.async false
set_option linter.all false
set_option maxRecDepth 100000
set_option maxHeartbeats 4000000
/-! V0: data without a heap (D), what it means that a value reads as such data (RD), kept under growth of the heap. -/
namespace VS
open PySem L2

inductive D where
  | non | bl (b : Bool) | int (i : Int) | str (x : Str)
  | lst (xs : List D) | tup (xs : List D)
  | dct (kvs : List (Key × D)) | set (xs : List Int) | scr (xs : List Int)
  deriving Inhabited

abbrev AP := Addr → Prop
def wA (p : Addr) (F : AP) : AP := fun a => a = p ∨ F a

/-- a list of the written part -/
def KL (K : PySem.W.Frag) (a : Addr) (xs : List V) : Prop :=
  ∃ (o : Obj) (its : Array Value) (n : Nat), K.lookup a = some o ∧ o.cls = .type "list" ∧ o.dict = none ∧ o.data = .seq its n ∧ its.size ≤ sizeLine ∧ Vals xs its.toList

mutual
inductive RD (K : PySem.W.Frag) (H : Hp) (F : AP) : V → D → Prop
  | non : RD K H F .non .non
  | bl (b : Bool) : RD K H F (.bl b) (.bl b)
  | int (i : Int) : RD K H F (.int i) (.int i)
  | str (x : Str) : RD K H F (.str x) (.str x)
  | lst {a : Addr} {xs : List V} {ds : List D} : ¬ F a → H a = some (.lst xs) → RDs K H F xs ds → RD K H F (.ref a) (.lst ds)
  | tup {a : Addr} {xs : List V} {ds : List D} : ¬ F a → H a = some (.tup xs) → RDs K H F xs ds → RD K H F (.ref a) (.tup ds)
  | dct {a : Addr} {kvs : List (Key × V)} {kds : List (Key × D)} : ¬ F a → H a = some (.dK kvs) → RDk K H F kvs kds → RD K H F (.ref a) (.dct kds)
  | set {a : Addr} {S : Int → Bool} {xs : List Int} : ¬ F a → H a = some (.set S xs.length) → (∀ i, S i = decide (i ∈ xs)) → xs.Nodup → RD K H F (.ref a) (.set xs)
  | scr {a : Addr} {ns : List Int} : ((∃ ob, H a = some (.frz ob (.lst (ns.map V.int))) ∧ ¬ F a) ∨ KL K a (ns.map V.int)) → RD K H F (.ref a) (.scr ns)
inductive RDs (K : PySem.W.Frag) (H : Hp) (F : AP) : List V → List D → Prop
  | nil : RDs K H F [] []
  | cons {v : V} {vs : List V} {d : D} {ds : List D} : RD K H F v d → RDs K H F vs ds → RDs K H F (v :: vs) (d :: ds)
inductive RDk (K : PySem.W.Frag) (H : Hp) (F : AP) : List (Key × V) → List (Key × D) → Prop
  | nil : RDk K H F [] []
  | cons {k : Key} {v : V} {vs : List (Key × V)} {d : D} {ds : List (Key × D)} : RD K H F v d → RDk K H F vs ds → RDk K H F ((k, v) :: vs) ((k, d) :: ds)
end

section
variable {K : PySem.W.Frag} {H H' : Hp} {F F' : AP}
mutual
/-- another heap, another forbidden part -/
theorem RD.go (hF : ∀ b, F' b → H b ≠ none → F b) (hH : ∀ b o, ¬ F b → H b = some o → H' b = some o) : ∀ {d : D} {v : V}, RD K H F v d → RD K H' F' v d
  | .non, _, h => by cases h; exact .non
  | .bl b, _, h => by cases h; exact .bl b
  | .int b, _, h => by cases h; exact .int b
  | .str b, _, h => by cases h; exact .str b
  | .lst ds, _, h => by
    cases h with
    | lst f e r => exact .lst (fun z => f (hF _ z (by rw [e]; simp))) (hH _ _ f e) (RDs.go hF hH r)
  | .tup ds, _, h => by
    cases h with
    | tup f e r => exact .tup (fun z => f (hF _ z (by rw [e]; simp))) (hH _ _ f e) (RDs.go hF hH r)
  | .dct ds, _, h => by
    cases h with
    | dct f e r => exact .dct (fun z => f (hF _ z (by rw [e]; simp))) (hH _ _ f e) (RDk.go hF hH r)
  | .set xs, _, h => by
    cases h with
    | set f e r n => exact .set (fun z => f (hF _ z (by rw [e]; simp))) (hH _ _ f e) r n
  | .scr xs, _, h => by
    cases h with
    | scr h =>
      rcases h with ⟨ob, e, f⟩ | h
      · exact .scr (.inl ⟨ob, hH _ _ f e, fun z => f (hF _ z (by rw [e]; simp))⟩)
      · exact .scr (.inr h)
theorem RDs.go (hF : ∀ b, F' b → H b ≠ none → F b) (hH : ∀ b o, ¬ F b → H b = some o → H' b = some o) : ∀ {ds : List D} {vs : List V}, RDs K H F vs ds → RDs K H' F' vs ds
  | [], _, h => by cases h; exact .nil
  | d :: ds, _, h => by
    cases h with
    | cons a b => exact .cons (RD.go hF hH a) (RDs.go hF hH b)
theorem RDk.go (hF : ∀ b, F' b → H b ≠ none → F b) (hH : ∀ b o, ¬ F b → H b = some o → H' b = some o) : ∀ {ds : List (Key × D)} {vs : List (Key × V)}, RDk K H F vs ds → RDk K H' F' vs ds
  | [], _, h => by cases h; exact .nil
  | (k, d) :: ds, _, h => by
    cases h with
    | cons a b => exact .cons (RD.go hF hH a) (RDk.go hF hH b)
end
theorem RD.mono {d : D} {v : V} (hH : ∀ b o, ¬ F b → H b = some o → H' b = some o) (h : RD K H F v d) : RD K H' F v d := h.go (fun _ z _ => z) hH
theorem RDs.mono {d : List D} {v : List V} (hH : ∀ b o, ¬ F b → H b = some o → H' b = some o) (h : RDs K H F v d) : RDs K H' F v d := h.go (fun _ z _ => z) hH
theorem RD.less {d : D} {v : V} (hF : ∀ b, F' b → F b) (h : RD K H F v d) : RD K H F' v d := h.go (fun b z _ => hF b z) (fun _ _ _ e => e)
theorem RDs.less {d : List D} {v : List V} (hF : ∀ b, F' b → F b) (h : RDs K H F v d) : RDs K H F' v d := h.go (fun b z _ => hF b z) (fun _ _ _ e => e)
/-- a place that nothing stands at may be forbidden -/
theorem RD.avoid {d : D} {v : V} {p : Addr} (hp : H p = none) (h : RD K H F v d) : RD K H (wA p F) v d := h.go (fun b z n => by
  rcases z with z | z
  · exact absurd (z ▸ hp) n
  · exact z) (fun _ _ _ e => e)
theorem RDs.avoid {d : List D} {v : List V} {p : Addr} (hp : H p = none) (h : RDs K H F v d) : RDs K H (wA p F) v d := h.go (fun b z n => by
  rcases z with z | z
  · exact absurd (z ▸ hp) n
  · exact z) (fun _ _ _ e => e)
theorem RDs.length : ∀ {ds : List D} {vs : List V}, RDs K H F vs ds → vs.length = ds.length
  | [], _, h => by cases h; rfl
  | d :: ds, _, h => by
    cases h with
    | cons a b => exact congrArg Nat.succ (RDs.length b)
theorem RDs.get : ∀ {ds : List D} {vs : List V} {i : Nat} {d : D}, RDs K H F vs ds → ds[i]? = some d → ∃ v, vs[i]? = some v ∧ RD K H F v d
  | [], _, _, _, _, e => by simp at e
  | d :: ds, _, 0, _, h, e => by
    cases h with
    | cons a b =>
      obtain rfl : d = _ := by simpa using e
      exact ⟨_, rfl, a⟩
  | d :: ds, _, i + 1, _, h, e => by
    cases h with
    | cons a b =>
      obtain ⟨v, h1, h2⟩ := RDs.get b (i := i) (by simpa using e)
      exact ⟨v, by simpa using h1, h2⟩
theorem RDs.getV : ∀ {ds : List D} {vs : List V} {i : Nat} {v : V}, RDs K H F vs ds → vs[i]? = some v → ∃ d, ds[i]? = some d ∧ RD K H F v d
  | [], _, _, _, h, e => by cases h; simp at e
  | d :: ds, _, 0, _, h, e => by
    cases h with
    | cons a b =>
      obtain rfl : _ = _ := by simpa using e
      exact ⟨_, rfl, a⟩
  | d :: ds, _, i + 1, _, h, e => by
    cases h with
    | cons a b =>
      obtain ⟨v, h1, h2⟩ := RDs.getV b (i := i) (by simpa using e)
      exact ⟨v, by simpa using h1, h2⟩
theorem RDs.append : ∀ {ds es : List D} {vs us : List V}, RDs K H F vs ds → RDs K H F us es → RDs K H F (vs ++ us) (ds ++ es)
  | [], _, _, _, h, g => by cases h; exact g
  | d :: ds, _, _, _, h, g => by
    cases h with
    | cons a b => exact .cons a (RDs.append b g)
theorem RDs.take : ∀ {ds : List D} {vs : List V} (n : Nat), RDs K H F vs ds → RDs K H F (vs.take n) (ds.take n)
  | _, _, 0, _ => .nil
  | [], _, n + 1, h => by cases h; exact .nil
  | d :: ds, _, n + 1, h => by
    cases h with
    | cons a b => exact .cons a (RDs.take n b)
theorem RDs.drop : ∀ {ds : List D} {vs : List V} (n : Nat), RDs K H F vs ds → RDs K H F (vs.drop n) (ds.drop n)
  | _, _, 0, h => h
  | [], _, n + 1, h => by cases h; exact .nil
  | d :: ds, _, n + 1, h => by
    cases h with
    | cons a b => exact RDs.drop n b
theorem RDs.set : ∀ {ds : List D} {vs : List V} {d : D} {v : V} (n : Nat), RDs K H F vs ds → RD K H F v d → RDs K H F (vs.set n v) (ds.set n d)
  | [], _, _, _, _, h, _ => by cases h; exact .nil
  | _ :: ds, _, _, _, 0, h, g => by
    cases h with
    | cons a b => exact .cons g b
  | _ :: ds, _, _, _, n + 1, h, g => by
    cases h with
    | cons a b => exact .cons a (RDs.set n b g)
theorem RDs.rep {ds : List D} {vs : List V} (h : RDs K H F vs ds) : ∀ n : Nat, RDs K H F (List.replicate n vs).flatten (List.replicate n ds).flatten
  | 0 => .nil
  | n + 1 => by
    rw [List.replicate_succ, List.replicate_succ, List.flatten_cons, List.flatten_cons]
    exact h.append (RDs.rep h n)

/-- the top stands anywhere -/
inductive RDT (K : PySem.W.Frag) (H : Hp) (F : AP) : V → D → Prop
  | of {v : V} {d : D} : RD K H F v d → RDT K H F v d
  | lst {a : Addr} {xs : List V} {ds : List D} : H a = some (.lst xs) → RDs K H F xs ds → RDT K H F (.ref a) (.lst ds)
  | dct {a : Addr} {kvs : List (Key × V)} {kds : List (Key × D)} : H a = some (.dK kvs) → RDk K H F kvs kds → RDT K H F (.ref a) (.dct kds)
  | set {a : Addr} {S : Int → Bool} {xs : List Int} : H a = some (.set S xs.length) → (∀ i, S i = decide (i ∈ xs)) → xs.Nodup → RDT K H F (.ref a) (.set xs)

theorem RDT.list {v : V} {ds : List D} (h : RDT K H F v (.lst ds)) : ∃ a xs, v = .ref a ∧ H a = some (.lst xs) ∧ RDs K H F xs ds := by
  cases h with
  | of h => cases h with | lst f e r => exact ⟨_, _, rfl, e, r⟩
  | lst e r => exact ⟨_, _, rfl, e, r⟩
theorem RDT.tuple {v : V} {ds : List D} (h : RDT K H F v (.tup ds)) : ∃ a xs, v = .ref a ∧ H a = some (.tup xs) ∧ RDs K H F xs ds := by
  cases h with
  | of h => cases h with | tup f e r => exact ⟨_, _, rfl, e, r⟩
theorem RDT.dict {v : V} {ds : List (Key × D)} (h : RDT K H F v (.dct ds)) : ∃ a xs, v = .ref a ∧ H a = some (.dK xs) ∧ RDk K H F xs ds := by
  cases h with
  | of h => cases h with | dct f e r => exact ⟨_, _, rfl, e, r⟩
  | dct e r => exact ⟨_, _, rfl, e, r⟩
theorem RDT.sets {v : V} {xs : List Int} (h : RDT K H F v (.set xs)) : ∃ a S, v = .ref a ∧ H a = some (.set S xs.length) ∧ (∀ i, S i = decide (i ∈ xs)) ∧ xs.Nodup := by
  cases h with
  | of h => cases h with | set f e r n => exact ⟨_, _, rfl, e, r, n⟩
  | set e r n => exact ⟨_, _, rfl, e, r, n⟩
theorem RDT.script {v : V} {ns : List Int} (h : RDT K H F v (.scr ns)) : ∃ a, v = .ref a ∧ SqL K H a (ns.map V.int) := by
  cases h with
  | of h =>
    cases h with
    | scr h =>
      rcases h with ⟨ob, e, f⟩ | h
      · exact ⟨_, rfl, .inl (.inr ⟨ob, e⟩)⟩
      · exact ⟨_, rfl, .inr h⟩
theorem RDT.non {v : V} (h : RDT K H F v .non) : v = .non := by cases h with | of h => cases h; rfl
theorem RDT.bl {v : V} {b : Bool} (h : RDT K H F v (.bl b)) : v = .bl b := by cases h with | of h => cases h; rfl
theorem RDT.int {v : V} {b : Int} (h : RDT K H F v (.int b)) : v = .int b := by cases h with | of h => cases h; rfl
theorem RDT.str {v : V} {b : Str} (h : RDT K H F v (.str b)) : v = .str b := by cases h with | of h => cases h; rfl
theorem RD.isbl {v : V} {b : Bool} (h : RD K H F v (.bl b)) : v = .bl b := by cases h; rfl
theorem RD.isint {v : V} {b : Int} (h : RD K H F v (.int b)) : v = .int b := by cases h; rfl
theorem RD.isstr {v : V} {b : Str} (h : RD K H F v (.str b)) : v = .str b := by cases h; rfl
theorem RD.isnon {v : V} (h : RD K H F v .non) : v = .non := by cases h; rfl
/-- None is None alone -/
theorem RDT.nonIff {v : V} {d : D} (h : RDT K H F v d) : (v = .non) ↔ (d = .non) := by
  cases h with
  | of h => cases h <;> simp
  | lst e r => simp
  | dct e r => simp
  | set e r n => simp

/-! ### as the library's data -/
mutual
def plain : D → Bool
  | .lst xs => plains xs
  | .tup xs => plains xs
  | .dct _ => false
  | .set _ => false
  | .scr _ => false
  | _ => true
def plains : List D → Bool
  | [] => true
  | d :: ds => plain d && plains ds
end
mutual
def toP : D → PyData
  | .non => .none
  | .bl b => .bool b
  | .int i => .int i
  | .str x => .str x
  | .lst xs => .list (toPs xs)
  | .tup xs => .tuple (toPs xs)
  | .dct _ => .none
  | .set _ => .none
  | .scr _ => .none
def toPs : List D → List PyData
  | [] => []
  | d :: ds => toP d :: toPs ds
end
mutual
theorem RD.dp : ∀ {d : D} {v : V}, RD K H F v d → plain d = true → Dp K H v (toP d)
  | .non, _, h, _ => by cases h; exact .non
  | .bl b, _, h, _ => by cases h; exact .bl b
  | .int b, _, h, _ => by cases h; exact .int b
  | .str b, _, h, _ => by cases h; exact .str b
  | .lst ds, _, h, p => by
    cases h with
    | lst f e r => exact .lst (.of e) (RDs.dp r (by simpa [plain] using p))
  | .tup ds, _, h, p => by
    cases h with
    | tup f e r => exact .tup (.of e) (RDs.dp r (by simpa [plain] using p))
  | .dct ds, _, h, p => by simp [plain] at p
  | .set ds, _, h, p => by simp [plain] at p
  | .scr ds, _, h, p => by simp [plain] at p
theorem RDs.dp : ∀ {ds : List D} {vs : List V}, RDs K H F vs ds → plains ds = true → DpAll K H vs (toPs ds)
  | [], _, h, _ => by cases h; exact .nil
  | d :: ds, _, h, p => by
    cases h with
    | cons a b =>
      have p' : plain d = true ∧ plains ds = true := by simpa [plains] using p
      exact .cons (RD.dp a p'.1) (RDs.dp b p'.2)
end
theorem RDT.dp {d : D} {v : V} (h : RDT K H F v d) (p : plain d = true) : Dp K H v (toP d) := by
  cases h with
  | of h => exact h.dp p
  | lst e r => exact .lst (.of e) (r.dp (by simpa [plain] using p))
  | dct e r => simp [plain] at p
  | set e r n => simp [plain] at p
end
end VS

set_option maxHeartbeats 4000000
/-! V1: codes for expressions and statements, and what they are worth on data. -/
namespace VS
open PySem L2

/-- built-in types in isinstance -/
inductive Ty | int | bool | list | str | tup | dict deriving DecidableEq
def Ty.nm : Ty → String
  | .int => "int" | .bool => "bool" | .list => "list" | .str => "str" | .tup => "tuple" | .dict => "dict"
/-- one operand -/
inductive P1
  | len | int_ | neg | repr_ | all_ | any_ | sum_ | isN | notN | abs_ | listOf | maxL | minL | isT (t : Ty) | not_ | isTrue_ | isFalse_ | sorted_ | notTrue_ | notFalse_ | bool_ | dictOf | mkD
  deriving DecidableEq
/-- two operands -/
inductive P2
  | add | sub | mul | fdiv | mod | pow | eq | ne | lt | le | gt | ge | inn | nin | idx | max2 | min2
  deriving DecidableEq
/-- targets -/
inductive Tg | nm (i : Nat) | tp (a b : Tg) | tp3 (a b c : Tg) | tp4 (a b c d : Tg) | tp5 (a b c d e : Tg)
  deriving DecidableEq

mutual
inductive C
  | var (i : Nat)
  | non | bl (b : Bool) | int (i : Int) | str (x : Str)
  | gint (x : Str) (i : Int)
  | p1 (p : P1) (a : C)
  | p2 (p : P2) (a b : C)
  | slc (a : C) (lo hi : CO)
  | and_ (a b : C) | or_ (a b : C) | orv (a b : C)
  | ife (t a b : C)
  | chain (p q : P2) (a b c : C)
  | lst (as : Cs) | tup (as : Cs)
  | call (f : Nat) (as : Cs)
  | comp (own : List Nat) (g : Tg) (it : CI) (t : C) (e : C)
inductive Cs
  | nil | cons (a : C) (r : Cs)
inductive CO
  | none | some (a : C)
inductive CI
  | seq (a : C) | rng1 (a : C) | rng2 (a b : C) | zip (a b : C) | enum (a : C)
end
mutual
inductive S
  | set (o : Bool) (i : Nat) (e : C)
  | tgt (g : Tg) (e : C)
  | par (i j : Nat) (a b : C)
  | sub (i : Nat) (ix e : C)
  | dput (i : Nat) (ix e : C)
  | app (i : Nat) (e : C)
  | ext (i : Nat) (e : C)
  | clr (i : Nat)
  | appT (a e : C)
  | aug (p : P2) (i : Nat) (e : C)
  | ex (e : C)
  | ret (e : C) | retO (i : Nat) | retN
  | ifs (t : C) (a b : Ss)
  | fors (J : List Nat) (g : Tg) (it : CI) (b : Ss)
  | whil (J : List Nat) (n : Nat) (t : C) (b : Ss)
  | brk | cnt | pas | dead
  | dem (i : Nat) (s : S)
  | kil (J : List Nat) (s : S)
inductive Ss
  | nil | cons (s : S) (r : Ss)
end

abbrev Ev := List (Option D)
def look (ε : Ev) (i : Nat) : Option D := match ε[i]? with | some (some d) => some d | _ => none

/-! ### operations on data -/
def lim : Nat := 1000000
def okEq (d : D) : Bool := plain d && SeqAt.shaped (toP d)
/-! dicts -/
def getKD : List (Key × D) → Key → Option D
  | [], _ => none
  | (k, d) :: r, i => if k = i then some d else getKD r i
def putKD (kvs : List (Key × D)) (i : Key) (d : D) : List (Key × D) :=
  if (kvs.any fun kv => decide (kv.1 = i)) = true then kvs.map (fun kv => if kv.1 = i then (kv.1, d) else kv) else kvs ++ [(i, d)]
/-- pairs, one by one -/
def mkD1 (acc : Option (List (Key × D))) (x : D) : Option (List (Key × D)) := acc.bind fun kvs => match x with
  | .tup [.int k, d] => some (putKD kvs (.inl k) d)
  | _ => none
def mkDL (xs : List D) : Option (List (Key × D)) := xs.foldl mkD1 (some [])
def intsK : List (Key × D) → Option (List (Key × Int))
  | [] => some []
  | (k, .int i) :: r => (intsK r).map ((k, i) :: ·)
  | _ :: _ => none
def getKI : List (Key × Int) → Key → Option Int
  | [], _ => none
  | (k, d) :: r, i => if k = i then some d else getKI r i
def eqKI (xs ys : List (Key × Int)) : Bool := xs.length == ys.length && xs.all fun p => match getKI ys p.1 with
  | some b => p.2 == b
  | none => false
def eqDct (xs ys : List (Key × D)) : Option Bool := match intsK xs, intsK ys with
  | some a, some b => some (eqKI a b)
  | _, _ => none
def eqP (a b : D) : Option Bool := match a, b with
  | .str x, .str y => some (decide (x = y))
  | .dct x, .dct y => eqDct x y
  | a, b => if okEq a && okEq b then some (PyData.eqv (toP a) (toP b)) else none
def small64 (i : Int) : Bool := decide (-(2 ^ 64) < i ∧ i < 2 ^ 64)
def allB : List D → Option (List Bool)
  | [] => some []
  | .bl b :: r => (allB r).map (b :: ·)
  | _ :: _ => none
def allI : List D → Option (List Int)
  | [] => some []
  | .int b :: r => (allI r).map (b :: ·)
  | _ :: _ => none
def isTy (d : D) : Ty → Option Bool
  | .int => some (match d with | .int _ => true | .bl _ => true | _ => false)
  | .bool => some (match d with | .bl _ => true | _ => false)
  | .list => some (match d with | .lst _ => true | .scr _ => true | _ => false)
  | .str => some (match d with | .str _ => true | _ => false)
  | .tup => some (match d with | .tup _ => true | _ => false)
  | .dict => some (match d with | .dct _ => true | _ => false)
def isSeq : D → Bool
  | .lst _ => true
  | .tup _ => true
  | _ => false
def okRepr (d : D) : Bool := isSeq d && plain d && (toP d).showable && decide ((toP d).depth ≤ 64) && decide ((toP d).shown.length ≤ lim)
def maxI : Int → List Int → Int
  | a, [] => a
  | a, b :: r => maxI (if b > a then b else a) r
def minI : Int → List Int → Int
  | a, [] => a
  | a, b :: r => minI (if b < a then b else a) r
def seqOf : D → Option (List D)
  | .lst xs => some xs
  | .tup xs => some xs
  | .scr ns => some (ns.map .int)
  | _ => none
def isNonD : D → Bool
  | .non => true
  | _ => false
def insI (a : Int) : List Int → List Int
  | [] => [a]
  | b :: r => if a ≤ b then a :: b :: r else b :: insI a r
def isort : List Int → List Int
  | [] => []
  | a :: r => insI a (isort r)
def op1 : P1 → D → Option D
  | .len, .lst xs => some (.int xs.length)
  | .len, .tup xs => some (.int xs.length)
  | .len, .scr xs => some (.int xs.length)
  | .len, .str x => if x.length ≤ lim then some (.int x.length) else none
  | .int_, .int i => some (.int i)
  | .int_, .bl b => some (.int (if b then 1 else 0))
  | .neg, .int i => some (.int (-i))
  | .repr_, d => if okRepr d then some (.str (toP d).shown) else none
  | .all_, .lst xs => (allB xs).map fun bs => .bl (bs.all id)
  | .any_, .lst xs => (allB xs).map fun bs => .bl (bs.any id)
  | .sum_, .lst xs => (allI xs).map fun bs => .int bs.sum
  | .isN, d => some (.bl (isNonD d))
  | .notN, d => some (.bl (!isNonD d))
  | .abs_, .int i => some (.int (if i < 0 then -i else i))
  | .listOf, d => (seqOf d).map .lst
  | .maxL, .lst xs => match allI xs with | some (a :: r) => some (.int (maxI a r)) | _ => none
  | .minL, .lst xs => match allI xs with | some (a :: r) => some (.int (minI a r)) | _ => none
  | .isT t, d => (isTy d t).map .bl
  | .not_, .bl b => some (.bl (!b))
  | .isTrue_, .bl b => some (.bl b)
  | .isFalse_, .bl b => some (.bl (!b))
  | .notTrue_, .bl b => some (.bl (!b))
  | .notFalse_, .bl b => some (.bl b)
  | .bool_, .lst xs => some (.bl (!xs.isEmpty))
  | .sorted_, .lst xs => (allI xs).map fun is => .lst ((isort is).map .int)
  | .dictOf, .dct kvs => some (.dct kvs)
  | .mkD, .lst xs => (mkDL xs).map .dct
  | _, _ => none
def ixD (xs : List D) (i : Int) : Option D := atI xs i
def op2 : P2 → D → D → Option D
  | .add, .int i, .int j => some (.int (i + j))
  | .add, .str x, .str y => if x.length + y.length ≤ lim then some (.str (x ++ y)) else none
  | .add, .lst xs, .lst ys => if xs.length + ys.length ≤ lim then some (.lst (xs ++ ys)) else none
  | .sub, .int i, .int j => some (.int (i - j))
  | .mul, .int i, .int j => if small64 i || small64 j then some (.int (i * j)) else none
  | .mul, .lst xs, .int j => if decide (0 ≤ j ∧ j ≤ lim ∧ xs.length * j.toNat ≤ lim) then some (.lst (List.replicate j.toNat xs).flatten) else none
  | .fdiv, .int i, .int j => if decide (0 < j ∧ j < 1073741824) then some (.int (i / j)) else none
  | .mod, .int i, .int j => if decide (0 < j) then some (.int (i % j)) else none
  | .pow, .int i, .int j => if decide (0 ≤ j ∧ j ≤ 1000000 ∧ i.natAbs < 2 ^ 64) then some (.int (i ^ j.toNat)) else none
  | .eq, a, b => (eqP a b).map .bl
  | .ne, a, b => (eqP a b).map fun c => .bl (!c)
  | .lt, .int i, .int j => some (.bl (decide (i < j)))
  | .le, .int i, .int j => some (.bl (decide (i ≤ j)))
  | .gt, .int i, .int j => some (.bl (decide (j < i)))
  | .ge, .int i, .int j => some (.bl (decide (j ≤ i)))
  | .idx, .lst xs, .int i => ixD xs i
  | .idx, .tup xs, .int i => ixD xs i
  | .idx, .dct kvs, .int i => getKD kvs (.inl i)
  | .idx, .scr xs, .int i => ixD (xs.map .int) i
  | .idx, .str x, .int i => if x.length ≤ lim then (atI x.cps.toList i).map fun c => .str ⟨#[c]⟩ else none
  | .inn, d, .lst xs => if okEq d && okEq (.lst xs) then some (.bl (xs.any fun z => PyData.eqv (toP z) (toP d))) else none
  | .nin, d, .lst xs => if okEq d && okEq (.lst xs) then some (.bl (!xs.any fun z => PyData.eqv (toP z) (toP d))) else none
  | .inn, .str x, .str y => match x.cps.toList with | [c] => some (.bl (decide (c ∈ y.cps.toList))) | _ => none
  | .max2, .int i, .int j => some (.int (if j > i then j else i))
  | .min2, .int i, .int j => some (.int (if j < i then j else i))
  | _, _, _ => none
/-- in place -/
def opA (p : P2) (x d : D) : Option D := match p, x, d with
  | .add, .int i, .int j => some (.int (i + j))
  | .add, .str _, .str _ => op2 .add x d
  | .sub, .int i, .int j => some (.int (i - j))
  | _, _, _ => none
def cutD {α : Type} (xs : List α) (lo hi : Option Int) : List α := (xs.drop (HT.sIx xs.length 0 lo)).take (HT.sIx xs.length xs.length hi - HT.sIx xs.length 0 lo)
def slcD (d : D) (lo hi : Option Int) : Option D := match d with
  | .lst xs => some (.lst (cutD xs lo hi))
  | _ => none
def truth : D → Option Bool
  | .bl b => some b
  | .non => some false
  | .int i => some (i != 0)
  | .lst xs => some (!xs.isEmpty)
  | .tup xs => some (!xs.isEmpty)
  | .str x => if x.length ≤ lim then some (x.length != 0) else none
  | _ => none
def putI (ε : Ev) (i : Nat) (d : D) : Ev := ε.set i (some d)
/-- a target takes a value -/
def tgD : Tg → D → Ev → Option Ev
  | .nm i, d, ε => some (putI ε i d)
  | .tp a b, .tup [x, y], ε => (tgD a x ε).bind (tgD b y)
  | .tp3 a b c, .tup [x, y, z], ε => ((tgD a x ε).bind (tgD b y)).bind (tgD c z)
  | .tp4 a b c d, .tup [x, y, z, w], ε => (((tgD a x ε).bind (tgD b y)).bind (tgD c z)).bind (tgD d w)
  | .tp5 a b c d e, .tup [x, y, z, w, v], ε => ((((tgD a x ε).bind (tgD b y)).bind (tgD c z)).bind (tgD d w)).bind (tgD e v)
  | _, _, _ => none
def enumD : Nat → List D → List D
  | _, [] => []
  | k, d :: r => .tup [.int k, d] :: enumD (k + 1) r
def zipD : List D → List D → List D
  | x :: xs, y :: ys => .tup [x, y] :: zipD xs ys
  | _, _ => []
def rngD (lo : Int) : Nat → List D
  | 0 => []
  | n + 1 => .int lo :: rngD (lo + 1) n
def okR (i : Int) : Bool := decide (-(2 ^ 62) ≤ i ∧ i < 2 ^ 62)

def lstAt (ε : Ev) (i : Nat) : Bool := match look ε i with
  | some (.lst _) => true
  | _ => false
def dctAt (ε : Ev) (i : Nat) : Bool := match look ε i with
  | some (.dct _) => true
  | _ => false
def isImm : D → Bool
  | .tup _ => true
  | .scr _ => true
  | _ => false
/-- behind a statement -/
inductive R
  | nx (ε : Ev) | rt (d : D) (ε : Ev) | bk (ε : Ev) | ct (ε : Ev)
def wipeE (ε : Ev) : List Nat → Ev
  | [] => ε
  | v :: vs => (wipeE ε vs).set v none
/-- at each turn, and behind the loop, the slots of J are forgotten -/
def forL (J : List Nat) (f : D → Ev → Option R) : List D → Ev → Option R
  | [], ε => some (.nx (wipeE ε J))
  | d :: ds, ε => match f d (wipeE ε J) with
    | some (.nx ε1) => forL J f ds ε1
    | some (.ct ε1) => forL J f ds ε1
    | some (.bk ε1) => some (.nx (wipeE ε1 J))
    | some (.rt d ε1) => some (.rt d ε1)
    | none => none
def whileL (J : List Nat) (t : Ev → Option (Bool × Ev)) (f : Ev → Option R) : Nat → Ev → Option R
  | 0, _ => none
  | n + 1, ε => match t (wipeE ε J) with
    | some (true, ε1) => match f ε1 with
      | some (.nx ε2) => whileL J t f n ε2
      | some (.ct ε2) => whileL J t f n ε2
      | some (.bk ε2) => some (.nx (wipeE ε2 J))
      | some (.rt d ε2) => some (.rt d ε2)
      | none => none
    | some (false, ε1) => some (.nx (wipeE ε1 J))
    | none => none
/-- a comprehension's turns -/
def compL (g : D → Ev → Option Ev) (t : Ev → Option (Bool × Ev)) (e : Ev → Option (D × Ev)) : List D → Ev → List D → Option (List D × Ev)
  | [], ε, acc => some (acc, ε)
  | d :: ds, ε, acc => match g d ε with
    | none => none
    | some ε1 => match t ε1 with
      | some (true, ε2) => match e ε2 with
        | some (y, ε3) => if acc.length < lim then compL g t e ds ε3 (acc ++ [y]) else none
        | none => none
      | some (false, ε2) => compL g t e ds ε2 acc
      | none => none
/-- the block's own names are the outer ones again -/
def backE (ε ε1 : Ev) : List Nat → Ev
  | [] => ε1
  | v :: vs => (backE ε ε1 vs).set v (match ε[v]? with | some x => x | none => none)

/-- how a def takes its arguments: shared, borrowed, its own to change (in and out), locked -/
inductive Md | S | B | O | L deriving DecidableEq
structure Df where
  name : Str
  ms : List Md
  fr : Bool
  N : List Str
  body : Ss
  np : Nat := ms.length
  /-- its answer is looked at, whether it can be but new -/
  nw : Bool := false
/-- the defs by number -/
abbrev Tb := Nat → Option Df
/-- what the called defs answer: value, and the lists handed in to be changed -/
abbrev Ph := Nat → List D → Option (D × List D)

/-- a name is read where it is used -/
def lateC (a : C) (d : D) (ε : Ev) : Option D := match a with
  | .var i => look ε i
  | _ => some d
def lates : Cs → List D → Ev → Option (List D)
  | .nil, [], _ => some []
  | .cons a r, d :: ds, ε => match lateC a d ε, lates r ds ε with
    | some d', some ds' => some (d' :: ds')
    | _, _ => none
  | _, _, _ => none
def mutD : D → Bool
  | .lst _ => true
  | .dct _ => true
  | .set _ => true
  | _ => false
def oMut : List Md → List D → Bool
  | .O :: ms, d :: ds => mutD d && oMut ms ds
  | _ :: ms, _ :: ds => oMut ms ds
  | _, _ => true
/-- the lists that come back -/
def outsE : List Md → Cs → List D → Ev → Option Ev
  | [], .nil, [], ε => some ε
  | .O :: ms, .cons (.var i) r, d :: os, ε => outsE ms r os (putI ε i d)
  | .O :: _, _, _, _ => none
  | _ :: ms, .cons _ r, os, ε => outsE ms r os ε
  | _, _, _, _ => none

mutual
def denE (T : Tb) (Φ : Ph) : C → Ev → Option (D × Ev)
  | .var i, ε => (look ε i).map fun d => (d, ε)
  | .non, ε => some (.non, ε)
  | .bl b, ε => some (.bl b, ε)
  | .int i, ε => some (.int i, ε)
  | .str x, ε => some (.str x, ε)
  | .gint _ i, ε => some (.int i, ε)
  | .p1 p a, ε => (denE T Φ a ε).bind fun (d, ε1) => (op1 p d).map fun r => (r, ε1)
  | .p2 p a b, ε => (denE T Φ a ε).bind fun (d, ε1) => (denE T Φ b ε1).bind fun (e, ε2) => (lateC a d ε2).bind fun d' => (op2 p d' e).map fun r => (r, ε2)
  | .slc a lo hi, ε => (denE T Φ a ε).bind fun (d, ε1) => (denO T Φ lo ε1).bind fun (l, ε2) => (denO T Φ hi ε2).bind fun (h, ε3) => (lateC a d ε3).bind fun d' => (slcD d' l h).map fun r => (r, ε3)
  | .and_ a b, ε => (denE T Φ a ε).bind fun (d, ε1) => match d with
    | .bl true => denE T Φ b ε1
    | .bl false => some (.bl false, ε1)
    | _ => none
  | .or_ a b, ε => (denE T Φ a ε).bind fun (d, ε1) => match d with
    | .bl true => some (.bl true, ε1)
    | .bl false => denE T Φ b ε1
    | _ => none
  | .orv a b, ε => (denE T Φ a ε).bind fun (d, ε1) => (truth d).bind fun c => if c then some (d, ε1) else denE T Φ b ε1
  | .ife t a b, ε => (denT T Φ t ε).bind fun (c, ε1) => if c then denE T Φ a ε1 else denE T Φ b ε1
  | .chain p q a b c, ε => (denE T Φ a ε).bind fun (d, ε1) => (denE T Φ b ε1).bind fun (e, ε2) => (lateC a d ε2).bind fun d' => (op2 p d' e).bind fun x => match x with
    | .bl true => (denE T Φ c ε2).bind fun (f, ε3) => (op2 q e f).map fun r => (r, ε3)
    | .bl false => some (.bl false, ε2)
    | _ => none
  | .lst as, ε => (denEs T Φ as ε).bind fun (ds, ε1) => if ds.length ≤ lim then some (.lst ds, ε1) else none
  | .tup as, ε => (denEs T Φ as ε).bind fun (ds, ε1) => if ds.length ≤ lim then some (.tup ds, ε1) else none
  | .call f as, ε => (denEs T Φ as ε).bind fun (ds, ε1) => (lates as ds ε1).bind fun ds' => (T f).bind fun df => if oMut df.ms ds' = false then none else (Φ f ds').bind fun (r, os) => (outsE df.ms as os ε1).map fun ε2 => (r, ε2)
  | .comp own g it t e, ε => (denI T Φ it ε).bind fun (ds, ε1) => (compL (fun d ε2 => tgD g d (wipeE ε2 own)) (denT T Φ t) (denE T Φ e) ds ε1 []).map fun (ys, ε2) => (.lst ys, backE ε1 ε2 own)
def denEs (T : Tb) (Φ : Ph) : Cs → Ev → Option (List D × Ev)
  | .nil, ε => some ([], ε)
  | .cons a r, ε => (denE T Φ a ε).bind fun (d, ε1) => (denEs T Φ r ε1).map fun (ds, ε2) => (d :: ds, ε2)
def denO (T : Tb) (Φ : Ph) : CO → Ev → Option (Option Int × Ev)
  | .none, ε => some (none, ε)
  | .some a, ε => (denE T Φ a ε).bind fun (d, ε1) => match d with
    | .int i => some (some i, ε1)
    | _ => none
def denI (T : Tb) (Φ : Ph) : CI → Ev → Option (List D × Ev)
  | .seq a, ε => (denE T Φ a ε).bind fun (d, ε1) => (seqOf d).map fun ds => (ds, ε1)
  | .rng1 a, ε => (denE T Φ a ε).bind fun (d, ε1) => match d with
    | .int j => if okR j then some (rngD 0 j.toNat, ε1) else none
    | _ => none
  | .rng2 a b, ε => (denE T Φ a ε).bind fun (d, ε1) => (denE T Φ b ε1).bind fun (e, ε2) => match d, e with
    | .int i, .int j => if okR i && okR j then some (rngD i (j - i).toNat, ε2) else none
    | _, _ => none
  | .zip a b, ε => (denE T Φ a ε).bind fun (d, ε1) => (denE T Φ b ε1).bind fun (e, ε2) => (lateC a d ε2).bind fun d' => match d', e with
    | .lst xs, .lst ys => some (zipD xs ys, ε2)
    | _, _ => none
  | .enum a, ε => (denE T Φ a ε).bind fun (d, ε1) => match d with
    | .lst xs => some (enumD 0 xs, ε1)
    | _ => none
/-- as a test -/
def denT (T : Tb) (Φ : Ph) : C → Ev → Option (Bool × Ev)
  | .and_ a b, ε => (denT T Φ a ε).bind fun (c, ε1) => if c then denT T Φ b ε1 else some (false, ε1)
  | .or_ a b, ε => (denT T Φ a ε).bind fun (c, ε1) => if c then some (true, ε1) else denT T Φ b ε1
  | .p1 .not_ a, ε => (denT T Φ a ε).map fun (c, ε1) => (!c, ε1)
  | .p1 p a, ε => (denE T Φ a ε).bind fun (d, ε1) => (op1 p d).bind fun r => (truth r).map fun c => (c, ε1)
  | .p2 p a b, ε => (denE T Φ a ε).bind fun (d, ε1) => (denE T Φ b ε1).bind fun (e, ε2) => (lateC a d ε2).bind fun d' => (op2 p d' e).bind fun r => (truth r).map fun c => (c, ε2)
  | .bl b, ε => some (b, ε)
  | .var i, ε => (look ε i).bind fun d => (truth d).map fun c => (c, ε)
  | .chain p q a b c, ε => (denE T Φ a ε).bind fun (d, ε1) => (denE T Φ b ε1).bind fun (e, ε2) => (lateC a d ε2).bind fun d' => (op2 p d' e).bind fun x => match x with
    | .bl true => (denE T Φ c ε2).bind fun (f, ε3) => (op2 q e f).bind fun r => (truth r).map fun c => (c, ε3)
    | .bl false => some (false, ε2)
    | _ => none
  | .call f as, ε => (denEs T Φ as ε).bind fun (ds, ε1) => (lates as ds ε1).bind fun ds' => (T f).bind fun df => if oMut df.ms ds' = false then none else (Φ f ds').bind fun (r, os) => (outsE df.ms as os ε1).bind fun ε2 => (truth r).map fun c => (c, ε2)
  | _, _ => none
end
mutual
def denS (T : Tb) (Φ : Ph) : S → Ev → Option R
  | .set _ i e, ε => (denE T Φ e ε).map fun (d, ε1) => .nx (putI ε1 i d)
  | .tgt g e, ε => (denE T Φ e ε).bind fun (d, ε1) => (tgD g d ε1).map .nx
  | .par i j a b, ε => (denE T Φ a ε).bind fun (d, ε1) => (denE T Φ b ε1).map fun (e, ε2) => .nx (putI (putI ε2 i d) j e)
  | .sub i ix e, ε => if lstAt ε i = false then none else (denE T Φ e ε).bind fun (d, ε1) => (denE T Φ ix ε1).bind fun (k, ε2) => (look ε2 i).bind fun x => match x, k with
    | .lst xs, .int k => (ixN xs.length k).map fun j => .nx (putI ε2 i (.lst (xs.set j d)))
    | _, _ => none
  | .dput i ix e, ε => if dctAt ε i = false then none else (denE T Φ e ε).bind fun (d, ε1) => (denE T Φ ix ε1).bind fun (k, ε2) => (look ε2 i).bind fun x => match x, k with
    | .dct kvs, .int k => if kvs.length < lim then some (.nx (putI ε2 i (.dct (putKD kvs (.inl k) d)))) else none
    | _, _ => none
  | .app i e, ε => if lstAt ε i = false then none else (denE T Φ e ε).bind fun (d, ε1) => (look ε1 i).bind fun x => match x with
    | .lst xs => if xs.length < lim then some (.nx (putI ε1 i (.lst (xs ++ [d])))) else none
    | _ => none
  | .ext i e, ε => if lstAt ε i = false then none else (denE T Φ e ε).bind fun (d, ε1) => (look ε1 i).bind fun x => match x, d with
    | .lst xs, .lst ys => if xs.length + ys.length ≤ lim then some (.nx (putI ε1 i (.lst (xs ++ ys)))) else none
    | _, _ => none
  | .clr i, ε => (look ε i).bind fun x => match x with
    | .lst xs => some (.nx (putI ε i (.lst [])))
    | _ => none
  | .appT a e, ε => (denE T Φ a ε).bind fun (x, ε1) => (denE T Φ e ε1).bind fun (d, ε2) => match x with
    | .lst xs => if xs.length < lim then some (.nx ε2) else none
    | _ => none
  | .aug p i e, ε => (look ε i).bind fun x => (denE T Φ e ε).bind fun (d, ε1) => (opA p x d).map fun r => .nx (putI ε1 i r)
  | .ex e, ε => (denE T Φ e ε).map fun (_, ε1) => .nx ε1
  | .ret e, ε => (denE T Φ e ε).map fun (d, ε1) => .rt d ε1
  | .retO i, ε => (look ε i).bind fun d => if isImm d then none else some (.rt d ε)
  | .retN, ε => some (.rt .non ε)
  | .ifs t a b, ε => (denT T Φ t ε).bind fun (c, ε1) => if c then denSs T Φ a ε1 else denSs T Φ b ε1
  | .fors J g it b, ε => (denI T Φ it ε).bind fun (ds, ε1) => forL J (fun d ε2 => (tgD g d ε2).bind fun ε3 => denSs T Φ b ε3) ds ε1
  | .whil J n t b, ε => whileL J (denT T Φ t) (denSs T Φ b) n ε
  | .brk, ε => some (.bk ε)
  | .cnt, ε => some (.ct ε)
  | .pas, ε => some (.nx ε)
  | .dead, ε => none
  | .dem _ s, ε => denS T Φ s ε
  | .kil J s, ε => denS T Φ s (wipeE ε J)
def denSs (T : Tb) (Φ : Ph) : Ss → Ev → Option R
  | .nil, ε => some (.nx ε)
  | .cons s r, ε => match denS T Φ s ε with
    | some (.nx ε1) => denSs T Φ r ε1
    | x => x
end
/-- the lists handed in to be changed, as they are now -/
def outsOf (ε : Ev) : List Md → Nat → Option (List D)
  | [], _ => some []
  | .O :: ms, i => match look ε i, outsOf ε ms (i + 1) with
    | some d, some r => some (d :: r)
    | _, _ => none
  | _ :: ms, i => outsOf ε ms (i + 1)
def runD (T : Tb) (Φ : Ph) (df : Df) (ds : List D) : Option (D × List D) :=
  if ds.length = df.ms.length then
    match denSs T Φ df.body (ds.map some ++ List.replicate (df.N.length - ds.length) none) with
    | some (.rt d ε) => (outsOf ε df.ms 0).map fun os => (d, os)
    | some (.nx ε) => (outsOf ε df.ms 0).map fun os => (.non, os)
    | _ => none
  else none
/-! a list of scalars is new where the arguments hold no such list -/
def scalD : D → Bool
  | .non => true
  | .bl _ => true
  | .int _ => true
  | .str _ => true
  | _ => false
mutual
def noSc : D → Bool
  | .lst xs => !(!xs.isEmpty && xs.all scalD) && noScs xs
  | .tup xs => noScs xs
  | .dct _ => false
  | .set _ => false
  | .scr _ => false
  | _ => true
def noScs : List D → Bool
  | [] => true
  | d :: r => noSc d && noScs r
end
def freshD (r : D) (ds : List D) : Bool := match r with
  | .lst rs => !rs.isEmpty && rs.all scalD && noScs ds
  | .non => true
  | .bl _ => true
  | .int _ => true
  | .str _ => true
  | _ => false
def noO (ms : List Md) : Bool := ms.all fun m => decide (m ≠ .O)
def runN (T : Tb) (Φ : Ph) (df : Df) (ds : List D) : Option (D × List D) :=
  if df.nw = true then (runD T Φ df ds).bind fun (r, os) => if (freshD r ds && noO df.ms) = true then some (r, os) else none
  else runD T Φ df ds
/-- the defs, calls at most so deep -/
def Ga (T : Tb) : Nat → Ph
  | 0, _, _ => none
  | k + 1, f, ds => (T f).bind fun df => runN T (Ga T k) df ds
end VS

set_option maxHeartbeats 4000000
/-! V2: slots and heap beside the data. -/
namespace VS
open PySem L2

def md (M : List Md) (i : Nat) : Md := match M[i]? with | some m => m | none => .S
def At (σ : St) (i : Nat) (a : Addr) : Prop := σ[i]? = some (some (.ref a))
def OwnAt (M : List Md) (σ : St) (i : Nat) (a : Addr) : Prop := (md M i = .O ∨ md M i = .L) ∧ At σ i a
structure Gh where
  K : PySem.W.Frag
  F : AP
  H0 : Hp
  pin : List (Nat × Addr × Md)
  nb : AP
/-- handed in to be changed -/
def Gh.ioA (G : Gh) (a : Addr) : Prop := ∃ p ∈ G.pin, p.2.2 = .O ∧ p.2.1 = a
def Forb (G : Gh) (M : List Md) (σ : St) : AP := fun a => G.F a ∨ ∃ i, OwnAt M σ i a
def SlotOk (K : PySem.W.Frag) (H : Hp) (F : AP) (m : Md) (v : V) (d : D) : Prop := (m = .S → RD K H F v d) ∧ RDT K H F v d
structure Rel (G : Gh) (M : List Md) (ε : Ev) (σ : St) (H : Hp) : Prop where
  len : σ.length = ε.length
  ml : M.length = σ.length
  slot : ∀ i d, look ε i = some d → ∃ v, σ[i]? = some (some v) ∧ SlotOk G.K H (Forb G M σ) (md M i) v d
  inj : ∀ i j a, OwnAt M σ i a → OwnAt M σ j a → i = j
  bor : ∀ i j a d, md M i = .B → look ε i = some d → mutD d = true → At σ i a → OwnAt M σ j a → False
  balloc : ∀ i a d, md M i = .B → look ε i = some d → mutD d = true → At σ i a → H a ≠ none
  fresh : ∀ i a, md M i = .O → At σ i a → G.H0 a = none ∨ G.ioA a
  alloc : ∀ a, Forb G M σ a → H a ≠ none
  frame : ∀ b o, ¬ G.ioA b → G.H0 b = some o → H b = some o
  ios : ∀ p ∈ G.pin, md M p.1 = p.2.2 ∧ At σ p.1 p.2.1
  lp : ∀ i a, md M i = .L → At σ i a → ∃ p ∈ G.pin, p.1 = i
  nob : ∀ a, G.nb a → ∀ j d, md M j = .B → look ε j = some d → mutD d = true → ¬ At σ j a
  pm : ∀ p ∈ G.pin, p.2.2 = .O ∨ p.2.2 = .L
  nF : ∀ i a, md M i = .O → At σ i a → ¬ G.F a ∨ G.ioA a

def Ext (M : List Md) (σ : St) (H H1 : Hp) : Prop := ∀ b o, H b = some o → (∀ i, md M i = .O → ¬ At σ i b) → H1 b = some o
abbrev isMut := mutD
def Gh.plus (G : Gh) (p : Addr) : Gh := { G with F := wA p G.F, nb := wA p G.nb }
/-- what an expression's value is: read apart from the forbidden; new, if so told, and nothing else meets it -/
structure ROk (fr : Bool) (G : Gh) (M : List Md) (ε : Ev) (σ : St) (H H1 : Hp) (v : V) (d : D) : Prop where
  rd : RD G.K H1 (Forb G M σ) v d
  new : fr = true → isMut d = true → ∃ p, v = .ref p ∧ H p = none ∧ Rel (G.plus p) M ε σ H1 ∧ RDT G.K H1 (wA p (Forb G M σ)) v d
  imm : fr = true → isImm d = false

section
variable {G : Gh} {M : List Md} {ε ε1 : Ev} {σ : St} {H H1 H2 : Hp}
theorem Ext.refl : Ext M σ H H := fun _ _ e _ => e
theorem Ext.of (h : Same H H1) : Ext M σ H H1 := fun b o e _ => h b o e
theorem Ext.trans (a : Ext M σ H H1) (b : Ext M σ H1 H2) : Ext M σ H H2 := fun c o e h => b c o (a c o e h) h
theorem Forb.own {i : Nat} {a : Addr} (hm : md M i = .O ∨ md M i = .L) (h : At σ i a) : Forb G M σ a := .inr ⟨i, hm, h⟩
theorem Ext.off (e : Ext M σ H H1) : ∀ b o, ¬ Forb G M σ b → H b = some o → H1 b = some o := fun b o f h =>
  e b o h fun i hm ha => f (Forb.own (.inl hm) ha)
theorem RD.ext {K : PySem.W.Frag} {v : V} {d : D} (e : Ext M σ H H1) (h : RD K H (Forb G M σ) v d) : RD K H1 (Forb G M σ) v d := h.mono e.off
theorem RDs.ext {K : PySem.W.Frag} {v : List V} {d : List D} (e : Ext M σ H H1) (h : RDs K H (Forb G M σ) v d) : RDs K H1 (Forb G M σ) v d := h.mono e.off
theorem RDT.mono {K : PySem.W.Frag} {F : AP} {v : V} {d : D} (hH : ∀ b o, H b = some o → H1 b = some o) (h : RDT K H F v d) : RDT K H1 F v d := by
  have hH' : ∀ b o, ¬ F b → H b = some o → H1 b = some o := fun b o _ e => hH b o e
  cases h with
  | of h => exact .of (h.mono hH')
  | lst e r => exact .lst (hH _ _ e) (r.mono hH')
  | dct e r => exact .dct (hH _ _ e) (r.go (fun _ z _ => z) hH')
  | set e r n => exact .set (hH _ _ e) r n
theorem SlotOk.mono {K : PySem.W.Frag} {F : AP} {m : Md} {v : V} {d : D} (hH : ∀ b o, H b = some o → H1 b = some o) (h : SlotOk K H F m v d) : SlotOk K H1 F m v d :=
  ⟨fun e => (h.1 e).mono fun b o _ e => hH b o e, h.2.mono hH⟩
/-- the heap grows -/
theorem Rel.grow (R : Rel G M ε σ H) (h : Same H H1) : Rel G M ε σ H1 where
  len := R.len
  ml := R.ml
  slot := fun i d e => by
    obtain ⟨v, h1, h2⟩ := R.slot i d e
    exact ⟨v, h1, h2.mono h⟩
  inj := R.inj
  bor := R.bor
  balloc := fun i a d hm hl hd ha => by
    cases q : H a with
    | none => exact absurd q (R.balloc i a d hm hl hd ha)
    | some o => rw [h a o q]; simp
  fresh := R.fresh
  alloc := fun a f => by
    cases q : H a with
    | none => exact absurd q (R.alloc a f)
    | some o => rw [h a o q]; simp
  frame := fun b o n e => h b o (R.frame b o n e)
  ios := R.ios
  lp := R.lp
  nob := R.nob
  pm := R.pm
  nF := R.nF
theorem Same.upd {p : Addr} {o : HO} (h : H p = none) : Same H (upd H p o) := fun b u e => by rw [upd_ne (ne_of_none e h)]; exact e
/-- a slot's value, as it is now -/
theorem Rel.var (R : Rel G M ε σ H) {i : Nat} {d : D} (e : look ε i = some d) : ∃ v, σ[i]? = some (some v) ∧ RDT G.K H (Forb G M σ) v d := by
  obtain ⟨v, h1, h2⟩ := R.slot i d e
  exact ⟨v, h1, h2.2⟩
theorem Rel.varS (R : Rel G M ε σ H) {i : Nat} {d : D} (e : look ε i = some d) (hm : md M i = .S) : ∃ v, σ[i]? = some (some v) ∧ RD G.K H (Forb G M σ) v d := by
  obtain ⟨v, h1, h2⟩ := R.slot i d e
  exact ⟨v, h1, h2.1 hm⟩

theorem md_set {i j : Nat} {m : Md} (h : i < M.length) : md (M.set i m) j = if i = j then m else md M j := by
  unfold md
  by_cases e : i = j
  · subst e; simp [h]
  · rw [List.getElem?_set_ne e, if_neg e]
theorem look_put {i j : Nat} {d : D} (h : i < ε.length) : look (putI ε i d) j = if i = j then some d else look ε j := by
  unfold look putI
  by_cases e : i = j
  · subst e; simp [h]
  · rw [List.getElem?_set_ne e, if_neg e]
theorem at_set {i j : Nat} {v : V} {a : Addr} (h : i < σ.length) : At (σ.set i (some v)) j a ↔ if i = j then v = .ref a else At σ j a := by
  unfold At
  by_cases e : i = j
  · subst e; simp [h]
  · rw [List.getElem?_set_ne e, if_neg e]
theorem look_lt {i : Nat} {d : D} (h : look ε i = some d) : i < ε.length := by
  unfold look at h
  cases q : ε[i]? with
  | none => rw [q] at h; cases h
  | some x => exact (List.getElem?_eq_some_iff.mp q).1

/-- an own thing is not among the forbidden ones of the caller -/
theorem Rel.notF (R : Rel G M ε σ H) {i : Nat} {a : Addr} (hm : md M i = .O) (ha : At σ i a) (hi : ∀ p ∈ G.pin, p.1 ≠ i) : ¬ G.F a := fun f => by
  rcases R.nF i a hm ha with z | ⟨p, hp, eo, e⟩
  · exact z f
  · obtain ⟨h1, h2⟩ := R.ios p hp
    rw [e] at h2
    rw [eo] at h1
    exact hi p hp (R.inj _ _ a ⟨.inl h1, h2⟩ ⟨.inl hm, ha⟩)
/-- an own name is given up -/
theorem Rel.demote (R : Rel G M ε σ H) {i : Nat} (hi : ∀ p ∈ G.pin, p.1 ≠ i) (hm : md M i = .O ∨ md M i = .S) (hl : i < M.length) : Rel G (M.set i .S) ε σ H := by
  rcases hm with hm | hm
  rotate_left
  · have e : M.set i .S = M := by
      refine List.ext_getElem? fun j => ?_
      by_cases q : i = j
      · subst q
        rw [List.getElem?_set_self hl]
        unfold md at hm
        rw [List.getElem?_eq_getElem hl] at hm ⊢
        simpa using hm.symm
      · rw [List.getElem?_set_ne q]
    rw [e]; exact R
  have ow : ∀ j a, OwnAt (M.set i .S) σ j a → OwnAt M σ j a ∧ j ≠ i := fun j a ⟨h1, h2⟩ => by
    rw [md_set hl] at h1
    by_cases q : i = j
    · rw [if_pos q] at h1; rcases h1 with h1 | h1 <;> cases h1
    · rw [if_neg q] at h1; exact ⟨⟨h1, h2⟩, fun z => q z.symm⟩
  have fb : ∀ a, Forb G (M.set i .S) σ a → Forb G M σ a := fun a f => by
    rcases f with f | ⟨j, f⟩
    · exact .inl f
    · exact .inr ⟨j, (ow j a f).1⟩
  have low : ∀ {v d}, RDT G.K H (Forb G M σ) v d → RDT G.K H (Forb G (M.set i .S) σ) v d := fun {v d} h => by
    cases h with
    | of h => exact .of (h.less fb)
    | lst e r => exact .lst e (r.less fb)
    | dct e r => exact .dct e (r.go (fun b z _ => fb b z) fun _ _ _ e => e)
    | set e r n => exact .set e r n
  refine ⟨R.len, by rw [List.length_set]; exact R.ml, fun j d e => ?_, fun j k a h1 h2 => R.inj j k a (ow _ _ h1).1 (ow _ _ h2).1, fun j k a d h1 hl1 hd1 h2 h3 => ?_, fun j a d h1 hl1 hd1 h2 => ?_, fun j a h1 h2 => ?_, fun a f => R.alloc a (fb a f), R.frame, fun p hp => ?_, fun j a h1 h2 => ?_, fun a na j d h1 hl1 hd1 h2 => ?_, R.pm, fun j a h1 h2 => ?_⟩
  · obtain ⟨v, h1, h2, h3⟩ := R.slot j d e
    clear e
    refine ⟨v, h1, fun hS => ?_, low h3⟩
    by_cases q : i = j
    · subst q
      have top : ∀ a, v = .ref a → ¬ Forb G (M.set i .S) σ a := fun a ev f => by
        have ha : At σ i a := by unfold At; rw [h1, ev]
        rcases f with f | ⟨j, f⟩
        · exact R.notF hm ha hi f
        · obtain ⟨o, ne⟩ := ow j a f
          exact ne (R.inj _ _ a o ⟨.inl hm, ha⟩)
      cases h3 with
      | of h => exact h.less fb
      | lst e' r => exact .lst (top _ rfl) e' (r.less fb)
      | dct e' r => exact .dct (top _ rfl) e' (r.go (fun b z _ => fb b z) fun _ _ _ e => e)
      | set e' r n => exact .set (top _ rfl) e' r n
    · rw [md_set hl, if_neg q] at hS
      exact (h2 hS).less fb
  · rw [md_set hl] at h1
    by_cases q : i = j
    · rw [if_pos q] at h1; cases h1
    · rw [if_neg q] at h1; exact R.bor j k a d h1 hl1 hd1 h2 (ow _ _ h3).1
  · rw [md_set hl] at h1
    by_cases q : i = j
    · rw [if_pos q] at h1; cases h1
    · rw [if_neg q] at h1; exact R.balloc j a d h1 hl1 hd1 h2
  · rw [md_set hl] at h1
    by_cases q : i = j
    · rw [if_pos q] at h1; cases h1
    · rw [if_neg q] at h1; exact R.fresh j a h1 h2
  · obtain ⟨h1, h2⟩ := R.ios p hp
    refine ⟨?_, h2⟩
    rw [md_set hl, if_neg (fun z => hi p hp z.symm)]; exact h1
  · rw [md_set hl] at h1
    by_cases q : i = j
    · rw [if_pos q] at h1; cases h1
    · rw [if_neg q] at h1; exact R.lp j a h1 h2
  · rw [md_set hl] at h1
    by_cases q : i = j
    · rw [if_pos q] at h1; cases h1
    · rw [if_neg q] at h1; exact R.nob a na j d h1 hl1 hd1 h2
  · rw [md_set hl] at h1
    by_cases q : i = j
    · rw [if_pos q] at h1; cases h1
    · rw [if_neg q] at h1; exact R.nF j a h1 h2
/-- a name takes a value that may be shared -/
theorem Rel.setS (R : Rel G M ε σ H) {i : Nat} {v : V} {d : D} (hi : ∀ p ∈ G.pin, p.1 ≠ i) (hl : i < M.length) (hs : i < σ.length) (h : RD G.K H (Forb G M σ) v d) : Rel G (M.set i .S) (putI ε i d) (σ.set i (some v)) H := by
  have he : i < ε.length := by rw [← R.len]; exact hs
  have ow : ∀ j a, OwnAt (M.set i .S) (σ.set i (some v)) j a → OwnAt M σ j a ∧ j ≠ i := fun j a ⟨h1, h2⟩ => by
    rw [md_set hl] at h1
    rw [at_set hs] at h2
    by_cases q : i = j
    · rw [if_pos q] at h1; rcases h1 with h1 | h1 <;> cases h1
    · rw [if_neg q] at h1 h2; exact ⟨⟨h1, h2⟩, fun z => q z.symm⟩
  have fb : ∀ a, Forb G (M.set i .S) (σ.set i (some v)) a → Forb G M σ a := fun a f => by
    rcases f with f | ⟨j, f⟩
    · exact .inl f
    · exact .inr ⟨j, (ow j a f).1⟩
  have low : ∀ {v' d}, RDT G.K H (Forb G M σ) v' d → RDT G.K H (Forb G (M.set i .S) (σ.set i (some v))) v' d := fun {v' d} h => by
    cases h with
    | of h => exact .of (h.less fb)
    | lst e r => exact .lst e (r.less fb)
    | dct e r => exact .dct e (r.go (fun b z _ => fb b z) fun _ _ _ e => e)
    | set e r n => exact .set e r n
  refine ⟨by unfold putI; rw [List.length_set, List.length_set]; exact R.len, by rw [List.length_set, List.length_set]; exact R.ml, fun j e hj => ?_, fun j k a h1 h2 => R.inj j k a (ow _ _ h1).1 (ow _ _ h2).1, fun j k a d h1 hl1 hd1 h2 h3 => ?_, fun j a d h1 hl1 hd1 h2 => ?_, fun j a h1 h2 => ?_, fun a f => R.alloc a (fb a f), R.frame, fun p hp => ?_, fun j a h1 h2 => ?_, fun a na j d h1 hl1 hd1 h2 => ?_, R.pm, fun j a h1 h2 => ?_⟩
  · rw [look_put he] at hj
    by_cases q : i = j
    · subst q
      rw [if_pos rfl] at hj
      obtain rfl : d = e := by simpa using hj
      exact ⟨v, by rw [List.getElem?_set_self hs], fun _ => h.less fb, .of (h.less fb)⟩
    · rw [if_neg q] at hj
      obtain ⟨w, h1, h2, h3⟩ := R.slot j e hj
      refine ⟨w, by rw [List.getElem?_set_ne q]; exact h1, fun hS => ?_, low h3⟩
      rw [md_set hl, if_neg q] at hS
      exact (h2 hS).less fb
  · rw [md_set hl] at h1
    rw [at_set hs] at h2
    rw [look_put he] at hl1
    by_cases q : i = j
    · rw [if_pos q] at h1; cases h1
    · rw [if_neg q] at h1 h2 hl1; exact R.bor j k a d h1 hl1 hd1 h2 (ow _ _ h3).1
  · rw [md_set hl] at h1
    rw [at_set hs] at h2
    rw [look_put he] at hl1
    by_cases q : i = j
    · rw [if_pos q] at h1; cases h1
    · rw [if_neg q] at h1 h2 hl1; exact R.balloc j a d h1 hl1 hd1 h2
  · rw [md_set hl] at h1
    rw [at_set hs] at h2
    by_cases q : i = j
    · rw [if_pos q] at h1; cases h1
    · rw [if_neg q] at h1 h2; exact R.fresh j a h1 h2
  · obtain ⟨h1, h2⟩ := R.ios p hp
    have q : ¬ i = p.1 := fun z => hi p hp z.symm
    exact ⟨by rw [md_set hl, if_neg q]; exact h1, by rw [at_set hs, if_neg q]; exact h2⟩
  · rw [md_set hl] at h1
    rw [at_set hs] at h2
    by_cases q : i = j
    · rw [if_pos q] at h1; cases h1
    · rw [if_neg q] at h1 h2; exact R.lp j a h1 h2
  · rw [md_set hl] at h1
    rw [at_set hs] at h2
    rw [look_put he] at hl1
    by_cases q : i = j
    · rw [if_pos q] at h1; cases h1
    · rw [if_neg q] at h1 h2 hl1; exact R.nob a na j d h1 hl1 hd1 h2
  · rw [md_set hl] at h1
    rw [at_set hs] at h2
    by_cases q : i = j
    · rw [if_pos q] at h1; cases h1
    · rw [if_neg q] at h1 h2; exact R.nF j a h1 h2
theorem forb_plus {p a : Addr} : Forb (G.plus p) M σ a ↔ wA p (Forb G M σ) a := by
  constructor
  · rintro ((h | h) | h)
    · exact .inl h
    · exact .inr (.inl h)
    · exact .inr (.inr h)
  · rintro (h | h | h)
    · exact .inl (.inl h)
    · exact .inl (.inr h)
    · exact .inr h
theorem RDT.less {K : PySem.W.Frag} {F F' : AP} {v : V} {d : D} (hF : ∀ b, F' b → F b) (h : RDT K H F v d) : RDT K H F' v d := by
  cases h with
  | of h => exact .of (h.less hF)
  | lst e r => exact .lst e (r.less hF)
  | dct e r => exact .dct e (r.go (fun b z _ => hF b z) fun _ _ _ e => e)
  | set e r n => exact .set e r n
theorem RDT.avoid {K : PySem.W.Frag} {F : AP} {v : V} {d : D} {p : Addr} (hp : H p = none) (h : RDT K H F v d) : RDT K H (wA p F) v d := by
  have hF : ∀ b, wA p F b → H b ≠ none → F b := fun b z n => by
    rcases z with z | z
    · exact absurd (z ▸ hp) n
    · exact z
  cases h with
  | of h => exact .of (h.avoid hp)
  | lst e r => exact .lst e (r.avoid hp)
  | dct e r => exact .dct e (r.go hF fun _ _ _ e => e)
  | set e r n => exact .set e r n
/-- a new place is met by nothing -/
theorem Rel.plus (R : Rel G M ε σ H) {p : Addr} (hp : H p = none) (hs : Same H H1) (hn : H1 p ≠ none) : Rel (G.plus p) M ε σ H1 := by
  have R1 := R.grow hs
  refine ⟨R1.len, R1.ml, fun i d e => ?_, R1.inj, R1.bor, R1.balloc, R1.fresh, fun a f => ?_, R1.frame, R1.ios, R1.lp, fun a na j d h1 h2 h3 h4 => ?_, R1.pm, fun i a hm ha => ?_⟩
  · obtain ⟨v, h1, h2, h3⟩ := R.slot i d e
    refine ⟨v, h1, fun hS => ?_, ?_⟩
    · exact (((h2 hS).avoid hp).less fun b z => forb_plus.mp z).mono fun b o _ e => hs b o e
    · exact ((h3.avoid hp).less fun b z => forb_plus.mp z).mono hs
  · rcases forb_plus.mp f with z | z
    · rw [z]; exact hn
    · exact R1.alloc a z
  · rcases na with e | na
    · rw [e] at h4; exact R.balloc j p d h1 h2 h3 h4 hp
    · exact R.nob a na j d h1 h2 h3 h4
  · rcases R.nF i a hm ha with z | z
    · refine .inl fun f => ?_
      rcases f with f | f
      · exact R.alloc a (Forb.own (.inl hm) ha) (f ▸ hp)
      · exact z f
    · exact .inr z
theorem Rel.minus {p : Addr} (R : Rel (G.plus p) M ε σ H) : Rel G M ε σ H where
  len := R.len
  ml := R.ml
  slot := fun i d e => by
    obtain ⟨v, h1, h2, h3⟩ := R.slot i d e
    exact ⟨v, h1, fun hS => (h2 hS).less fun b z => forb_plus.mpr (.inr z), h3.less fun b z => forb_plus.mpr (.inr z)⟩
  inj := R.inj
  bor := R.bor
  balloc := R.balloc
  fresh := R.fresh
  alloc := fun a f => R.alloc a (forb_plus.mpr (.inr f))
  frame := R.frame
  ios := R.ios
  lp := R.lp
  nob := fun a na => R.nob a (.inr na)
  pm := R.pm
  nF := fun i a hm ha => by
    rcases R.nF i a hm ha with z | z
    · exact .inl fun f => z (.inr f)
    · exact .inr z
/-- a name takes a new thing of its own -/
theorem Rel.setO (R0 : Rel G M ε σ H) {i : Nat} {v : V} {d : D} (R1 : Rel G M ε1 σ H1) (hx : Ext M σ H H1) (hi : ∀ p ∈ G.pin, p.1 ≠ i) (hl : i < M.length) (hs : i < σ.length) (h : ROk true G M ε1 σ H H1 v d) :
    Rel G (M.set i .O) (putI ε1 i d) (σ.set i (some v)) H1 := by
  have he : i < ε1.length := by rw [← R1.len]; exact hs
  cases hd : isMut d with
  | false =>
    -- nothing that can be changed
    have im := h.imm rfl
    have nr : ∀ a, v ≠ .ref a := fun a ev => by
      have := h.rd
      rw [ev] at this
      cases this <;> simp [isMut, mutD, isImm] at hd im
    have ow : ∀ j a, OwnAt (M.set i .O) (σ.set i (some v)) j a → OwnAt M σ j a ∧ j ≠ i := fun j a ⟨h1, h2⟩ => by
      rw [md_set hl] at h1
      rw [at_set hs] at h2
      by_cases q : i = j
      · rw [if_pos q] at h2; exact absurd h2 (nr a)
      · rw [if_neg q] at h1 h2; exact ⟨⟨h1, h2⟩, fun z => q z.symm⟩
    have fb : ∀ a, Forb G (M.set i .O) (σ.set i (some v)) a → Forb G M σ a := fun a f => by
      rcases f with f | ⟨j, f⟩
      · exact .inl f
      · exact .inr ⟨j, (ow j a f).1⟩
    refine ⟨by unfold putI; rw [List.length_set, List.length_set]; exact R1.len, by rw [List.length_set, List.length_set]; exact R1.ml, fun j e hj => ?_, fun j k a h1 h2 => R1.inj j k a (ow _ _ h1).1 (ow _ _ h2).1, fun j k a d h1 hl1 hd1 h2 h3 => ?_, fun j a d h1 hl1 hd1 h2 => ?_, fun j a h1 h2 => ?_, fun a f => R1.alloc a (fb a f), R1.frame, fun p hp => ?_, fun j a h1 h2 => ?_, fun a na j d h1 hl1 hd1 h2 => ?_, R1.pm, fun j a h1 h2 => ?_⟩
    · rw [look_put he] at hj
      by_cases q : i = j
      · subst q
        rw [if_pos rfl] at hj
        obtain rfl : d = e := by simpa using hj
        exact ⟨v, by rw [List.getElem?_set_self hs], fun _ => h.rd.less fb, .of (h.rd.less fb)⟩
      · rw [if_neg q] at hj
        obtain ⟨w, h1, h2, h3⟩ := R1.slot j e hj
        refine ⟨w, by rw [List.getElem?_set_ne q]; exact h1, fun hS => ?_, h3.less fb⟩
        rw [md_set hl, if_neg q] at hS
        exact (h2 hS).less fb
    · rw [md_set hl] at h1
      rw [at_set hs] at h2
      rw [look_put he] at hl1
      by_cases q : i = j
      · rw [if_pos q] at h1; cases h1
      · rw [if_neg q] at h1 h2 hl1; exact R1.bor j k a _ h1 hl1 hd1 h2 (ow _ _ h3).1
    · rw [md_set hl] at h1
      rw [at_set hs] at h2
      rw [look_put he] at hl1
      by_cases q : i = j
      · rw [if_pos q] at h1; cases h1
      · rw [if_neg q] at h1 h2 hl1; exact R1.balloc j a _ h1 hl1 hd1 h2
    · rw [md_set hl] at h1
      rw [at_set hs] at h2
      by_cases q : i = j
      · rw [if_pos q] at h2; exact absurd h2 (nr a)
      · rw [if_neg q] at h1 h2; exact R1.fresh j a h1 h2
    · obtain ⟨h1, h2⟩ := R1.ios p hp
      have q : ¬ i = p.1 := fun z => hi p hp z.symm
      exact ⟨by rw [md_set hl, if_neg q]; exact h1, by rw [at_set hs, if_neg q]; exact h2⟩
    · rw [md_set hl] at h1
      rw [at_set hs] at h2
      by_cases q : i = j
      · rw [if_pos q] at h1; cases h1
      · rw [if_neg q] at h1 h2; exact R1.lp j a h1 h2
    · rw [md_set hl] at h1
      rw [at_set hs] at h2
      rw [look_put he] at hl1
      by_cases q : i = j
      · rw [if_pos q] at h1; cases h1
      · rw [if_neg q] at h1 h2 hl1; exact R1.nob a na j _ h1 hl1 hd1 h2
    · rw [md_set hl] at h1
      rw [at_set hs] at h2
      by_cases q : i = j
      · rw [if_pos q] at h2; exact absurd h2 (nr a)
      · rw [if_neg q] at h1 h2; exact R1.nF j a h1 h2
  | true =>
    obtain ⟨p, ev, hp, R, hT⟩ := h.new rfl hd
    subst ev
    have ow : ∀ j a, OwnAt (M.set i .O) (σ.set i (some (.ref p))) j a → (j = i ∧ a = p) ∨ (OwnAt M σ j a ∧ j ≠ i) := fun j a ⟨h1, h2⟩ => by
      rw [md_set hl] at h1
      rw [at_set hs] at h2
      by_cases q : i = j
      · rw [if_pos q] at h2; exact .inl ⟨q.symm, by injection h2 with e; exact e.symm⟩
      · rw [if_neg q] at h1 h2; exact .inr ⟨⟨h1, h2⟩, fun z => q z.symm⟩
    have fb : ∀ a, Forb G (M.set i .O) (σ.set i (some (.ref p))) a → wA p (Forb G M σ) a := fun a f => by
      rcases f with f | ⟨j, f⟩
      · exact .inr (.inl f)
      · rcases ow j a f with ⟨_, e⟩ | ⟨o, _⟩
        · exact .inl e
        · exact .inr (.inr ⟨j, o⟩)
    have noown : ∀ j, ¬ OwnAt M σ j p := fun j o => R0.alloc p (.inr ⟨j, o⟩) hp
    have h1p : H1 p ≠ none := R.alloc p (forb_plus.mpr (.inl rfl))
    have hn0 : ¬ G.ioA p := fun ⟨q, hq, eo, e⟩ => by
      obtain ⟨h1, h2⟩ := R0.ios q hq
      rw [eo] at h1
      exact noown q.1 ⟨.inl h1, by rw [← e]; exact h2⟩
    have h0 : G.H0 p = none := by
      cases q : G.H0 p with
      | none => rfl
      | some o => rw [R0.frame p o hn0 q] at hp; cases hp
    refine ⟨by unfold putI; rw [List.length_set, List.length_set]; exact R1.len, by rw [List.length_set, List.length_set]; exact R1.ml, fun j e hj => ?_, fun j k a h1 h2 => ?_, fun j k a d h1 hl1 hd1 h2 h3 => ?_, fun j a d h1 hl1 hd1 h2 => ?_, fun j a h1 h2 => ?_, fun a f => ?_, R1.frame, fun q hq => ?_, fun j a h1 h2 => ?_, fun a na j d h1 hl1 hd1 h2 => ?_, R1.pm, fun j a h1 h2 => ?_⟩
    · rw [look_put he] at hj
      by_cases q : i = j
      · subst q
        rw [if_pos rfl] at hj
        obtain rfl : d = e := by simpa using hj
        refine ⟨.ref p, by rw [List.getElem?_set_self hs], fun hS => ?_, hT.less fb⟩
        rw [md_set hl, if_pos rfl] at hS; cases hS
      · rw [if_neg q] at hj
        obtain ⟨w, h1, h2, h3⟩ := R.slot j e hj
        refine ⟨w, by rw [List.getElem?_set_ne q]; exact h1, fun hS => ?_, h3.less fun b z => forb_plus.mpr (fb b z)⟩
        rw [md_set hl, if_neg q] at hS
        exact (h2 hS).less fun b z => forb_plus.mpr (fb b z)
    · rcases ow j a h1 with ⟨e1, e2⟩ | ⟨o1, n1⟩
      · rcases ow k a h2 with ⟨e3, _⟩ | ⟨o2, _⟩
        · rw [e1, e3]
        · rw [e2] at o2; exact (noown k o2).elim
      · rcases ow k a h2 with ⟨_, e4⟩ | ⟨o2, _⟩
        · rw [e4] at o1; exact (noown j o1).elim
        · exact R1.inj j k a o1 o2
    · rw [md_set hl] at h1
      rw [at_set hs] at h2
      rw [look_put he] at hl1
      by_cases q : i = j
      · rw [if_pos q] at h1; cases h1
      · rw [if_neg q] at h1 h2 hl1
        rcases ow k a h3 with ⟨_, e⟩ | ⟨o, _⟩
        · subst e
          exact R.nob a (.inl rfl) j _ h1 hl1 hd1 h2
        · exact R1.bor j k a _ h1 hl1 hd1 h2 o
    · rw [md_set hl] at h1
      rw [at_set hs] at h2
      rw [look_put he] at hl1
      by_cases q : i = j
      · rw [if_pos q] at h1; cases h1
      · rw [if_neg q] at h1 h2 hl1; exact R1.balloc j a _ h1 hl1 hd1 h2
    · rw [md_set hl] at h1
      rw [at_set hs] at h2
      by_cases q : i = j
      · rw [if_pos q] at h2; injection h2 with e; subst e; exact .inl h0
      · rw [if_neg q] at h1 h2; exact R1.fresh j a h1 h2
    · rcases fb a f with e | f
      · rw [e]; exact h1p
      · exact R1.alloc a f
    · obtain ⟨h1, h2⟩ := R1.ios q hq
      have n : ¬ i = q.1 := fun z => hi q hq z.symm
      exact ⟨by rw [md_set hl, if_neg n]; exact h1, by rw [at_set hs, if_neg n]; exact h2⟩
    · rw [md_set hl] at h1
      rw [at_set hs] at h2
      by_cases q : i = j
      · rw [if_pos q] at h1; cases h1
      · rw [if_neg q] at h1 h2; exact R1.lp j a h1 h2
    · rw [md_set hl] at h1
      rw [at_set hs] at h2
      rw [look_put he] at hl1
      by_cases q : i = j
      · rw [if_pos q] at h1; cases h1
      · rw [if_neg q] at h1 h2 hl1; exact R1.nob a na j _ h1 hl1 hd1 h2
    · rw [md_set hl] at h1
      rw [at_set hs] at h2
      by_cases q : i = j
      · rw [if_pos q] at h2; injection h2 with e; subst e
        exact .inl fun f => R0.alloc p (.inl f) hp
      · rw [if_neg q] at h1 h2; exact R1.nF j a h1 h2
/-- an own thing is changed -/
theorem Rel.wrO (R : Rel G M ε σ H) {i : Nat} {a : Addr} {ob : HO} {dd : D} (hm : md M i = .O) (ha : At σ i a) (hi : i < ε.length) (h : ∀ H', H' a = some ob → (∀ b o, ¬ Forb G M σ b → H b = some o → H' b = some o) → RDT G.K H' (Forb G M σ) (.ref a) dd) :
    Rel G M (putI ε i dd) σ (upd H a ob) := by
  have off : ∀ b o, ¬ Forb G M σ b → H b = some o → upd H a ob b = some o := fun b o f e => by
    rw [upd_ne (fun z => f (by rw [z]; exact Forb.own (.inl hm) ha))]; exact e
  have there : ∀ b, H b ≠ none → upd H a ob b ≠ none := fun b n => by
    by_cases q : b = a
    · subst q; rw [upd_same]; simp
    · rw [upd_ne q]; exact n
  have lk : ∀ j d, md M j = .B → look (putI ε i dd) j = some d → look ε j = some d := fun j d hb hj => by
    rw [look_put hi] at hj
    by_cases q : i = j
    · subst q; rw [hm] at hb; cases hb
    · rwa [if_neg q] at hj
  refine ⟨by unfold putI; rw [List.length_set]; exact R.len, R.ml, fun j d hj => ?_, R.inj, fun j k b d h1 h2 => R.bor j k b d h1 (lk j d h1 h2), fun j b d h1 h2 h3 h4 => there b (R.balloc j b d h1 (lk j d h1 h2) h3 h4), R.fresh, fun b f => there b (R.alloc b f), fun b o n e => ?_, R.ios, R.lp, fun b nb j d h1 h2 => R.nob b nb j d h1 (lk j d h1 h2), R.pm, R.nF⟩
  · rw [look_put hi] at hj
    by_cases q : i = j
    · subst q
      rw [if_pos rfl] at hj
      obtain rfl : dd = d := by simpa using hj
      refine ⟨.ref a, ha, fun hS => ?_, h _ upd_same off⟩
      rw [hm] at hS; cases hS
    · rw [if_neg q] at hj
      obtain ⟨w, h1, h2, h3⟩ := R.slot j d hj
      refine ⟨w, h1, fun hS => (h2 hS).mono off, ?_⟩
      have top : ∀ b, w = .ref b → md M j ≠ .S → mutD d = true → b ≠ a := fun b ew hn hmu z => by
        rw [ew, z] at h1
        cases hj2 : md M j with
        | S => exact hn hj2
        | B => exact R.bor j i a d hj2 hj hmu h1 ⟨.inl hm, ha⟩
        | O => exact q (R.inj _ _ a ⟨.inl hm, ha⟩ ⟨.inl hj2, h1⟩)
        | L => exact q (R.inj _ _ a ⟨.inl hm, ha⟩ ⟨.inr hj2, h1⟩)
      by_cases hS : md M j = .S
      · exact .of ((h2 hS).mono off)
      · cases h3 with
        | of h => exact .of (h.mono off)
        | lst e r => exact .lst (by rw [upd_ne (top _ rfl hS rfl)]; exact e) (r.mono off)
        | dct e r => exact .dct (by rw [upd_ne (top _ rfl hS rfl)]; exact e) (r.go (fun _ z _ => z) off)
        | set e r n => exact .set (by rw [upd_ne (top _ rfl hS rfl)]; exact e) r n
  · have e1 := R.frame b o n e
    rw [upd_ne]; exact e1
    intro z
    subst z
    rcases R.fresh i b hm ha with q | q
    · rw [q] at e; cases e
    · exact n q
/-- an own list is changed -/
theorem Rel.wr (R : Rel G M ε σ H) {i : Nat} {a : Addr} {xs' : List V} {ds' : List D} (hm : md M i = .O) (ha : At σ i a) (hi : i < ε.length) (h : RDs G.K H (Forb G M σ) xs' ds') :
    Rel G M (putI ε i (.lst ds')) σ (upd H a (.lst xs')) := R.wrO hm ha hi fun H' e off => .lst e (h.mono off)
/-- an own dict is changed -/
theorem Rel.wrD (R : Rel G M ε σ H) {i : Nat} {a : Addr} {xs' : List (Key × V)} {ds' : List (Key × D)} (hm : md M i = .O) (ha : At σ i a) (hi : i < ε.length) (h : RDk G.K H (Forb G M σ) xs' ds') :
    Rel G M (putI ε i (.dct ds')) σ (upd H a (.dK xs')) := R.wrO hm ha hi fun H' e off => .dct e (h.go (fun _ z _ => z) off)
theorem Ext.wr {i : Nat} {a : Addr} {o : HO} (hm : md M i = .O) (ha : At σ i a) : Ext M σ H (upd H a o) := fun b u e h => by
  rw [upd_ne (fun z => h i hm (by rw [z]; exact ha))]; exact e
end
end VS

set_option maxHeartbeats 4000000
/-! V3: the operations, value by value. -/
namespace VS
open PySem PySem.Spec PyProof.Rows L2

def fr1 : P1 → Bool
  | .listOf => true
  | .sorted_ => true
  | .dictOf => true
  | .mkD => true
  | _ => false
def fr2 : P2 → Bool
  | .add => true
  | .mul => true
  | _ => false
structure OpVal (fr : Bool) (K : PySem.W.Frag) (H H1 : Hp) (F : AP) (v : V) (r : D) : Prop where
  same : Same H H1
  rd : RD K H1 F v r
  new : fr = true → isMut r = true → ∃ p, v = .ref p ∧ H p = none ∧ H1 p ≠ none ∧ RDT K H1 (wA p F) v r
  imm : fr = true → isImm r = false
def OpPost (fr : Bool) (K : PySem.W.Frag) (H : Hp) (F : AP) (r : D) (Q : VK) : Prop := ∀ v H1, (H = H → ∀ a, F a → H a ≠ none) → OpVal fr K H H1 F v r → Q v H1
/-- the forbidden places are taken -/
def Taken (H : Hp) (F : AP) : Prop := ∀ a, F a → H a ≠ none

def r1 (p : P1) (K : PySem.W.Frag) : V → Hp → VK → Prop := fun x H Q => ∃ F d r, Taken H F ∧ RDT K H F x d ∧ op1 p d = some r ∧ ∀ v H1, OpVal (fr1 p) K H H1 F v r → Q v H1
def r2 (p : P2) (K : PySem.W.Frag) : R2 := fun x y H Q => ∃ F d e r, Taken H F ∧ RDT K H F x d ∧ RDT K H F y e ∧ op2 p d e = some r ∧ ∀ v H1, OpVal (fr2 p) K H H1 F v r → Q v H1
section
variable {K : PySem.W.Frag} {H : Hp} {F : AP} {fr : Bool}
/-- a value that is no thing of the heap -/
theorem OpVal.atom {v : V} {r : D} (h : RD K H F v r) (m : isMut r = false) (i : isImm r = false) : OpVal fr K H H F v r :=
  ⟨Same.refl H, h, fun _ z => by rw [m] at z; exact Bool.noConfusion z, fun _ => i⟩
theorem OpVal.old {v : V} {r : D} (h : RD K H F v r) : OpVal false K H H F v r := ⟨Same.refl H, h, fun z => Bool.noConfusion z, fun z => Bool.noConfusion z⟩
theorem OpVal.newl {p : Addr} {xs : List V} {ds : List D} (hp : H p = none) (hF : Taken H F) (h : RDs K H F xs ds) : OpVal fr K H (upd H p (.lst xs)) F (.ref p) (.lst ds) := by
  have off : ∀ b o, H b = some o → upd H p (.lst xs) b = some o := fun b o e => by rw [upd_ne (ne_of_none e hp)]; exact e
  have h' : RDs K (upd H p (.lst xs)) (wA p F) xs ds := (h.avoid hp).mono fun b o _ e => off b o e
  exact ⟨Same.upd hp, .lst (fun z => hF p z hp) upd_same (h'.less fun b z => .inr z), fun _ _ => ⟨p, rfl, hp, by rw [upd_same]; simp, .lst upd_same h'⟩, fun _ => rfl⟩
theorem OpVal.newd {p : Addr} {xs : List (Key × V)} {ds : List (Key × D)} (hp : H p = none) (hF : Taken H F) (h : RDk K H F xs ds) : OpVal fr K H (upd H p (.dK xs)) F (.ref p) (.dct ds) := by
  have off : ∀ b o, H b = some o → upd H p (.dK xs) b = some o := fun b o e => by rw [upd_ne (ne_of_none e hp)]; exact e
  have h' : RDk K (upd H p (.dK xs)) (wA p F) xs ds := h.go (fun b z n => by
    rcases z with z | z
    · exact absurd (z ▸ hp) n
    · exact z) fun b o _ e => off b o e
  exact ⟨Same.upd hp, .dct (fun z => hF p z hp) upd_same (h'.go (fun b z _ => .inr z) fun _ _ _ e => e), fun _ _ => ⟨p, rfl, hp, by rw [upd_same]; simp, .dct upd_same h'⟩, fun _ => rfl⟩
theorem OpVal.newt {p : Addr} {xs : List V} {ds : List D} (hp : H p = none) (hF : Taken H F) (h : RDs K H F xs ds) : OpVal false K H (upd H p (.tup xs)) F (.ref p) (.tup ds) := by
  have off : ∀ b o, H b = some o → upd H p (.tup xs) b = some o := fun b o e => by rw [upd_ne (ne_of_none e hp)]; exact e
  have h' : RDs K (upd H p (.tup xs)) F xs ds := h.mono fun b o _ e => off b o e
  exact ⟨Same.upd hp, .tup (fun z => hF p z hp) upd_same h', fun z => Bool.noConfusion z, fun z => Bool.noConfusion z⟩
theorem OpVal.int {i : Int} : OpVal fr K H H F (.int i) (.int i) := .atom (.int i) rfl rfl
theorem OpVal.bl {b : Bool} : OpVal fr K H H F (.bl b) (.bl b) := .atom (.bl b) rfl rfl
theorem OpVal.str {x : Str} : OpVal fr K H H F (.str x) (.str x) := .atom (.str x) rfl rfl
theorem OpVal.non : OpVal fr K H H F .non .non := .atom .non rfl rfl

/-! dicts -/
theorem RDk.any {kvs : List (Key × V)} {kds : List (Key × D)} (h : RDk K H F kvs kds) (i : Key) : (kvs.any fun kv => decide (kv.1 = i)) = kds.any fun kv => decide (kv.1 = i) := by
  induction kds generalizing kvs with
  | nil => cases h; rfl
  | cons p r ih =>
    obtain ⟨k, d⟩ := p
    cases h with
    | cons a b => simp only [List.any_cons, ih b]
theorem RDk.app {kvs us : List (Key × V)} {kds es : List (Key × D)} (h : RDk K H F kvs kds) (g : RDk K H F us es) : RDk K H F (kvs ++ us) (kds ++ es) := by
  induction kds generalizing kvs with
  | nil => cases h; exact g
  | cons p r ih =>
    obtain ⟨k, d⟩ := p
    cases h with
    | cons a b => exact .cons a (ih b)
theorem RDk.repl {kvs : List (Key × V)} {kds : List (Key × D)} {v : V} {d : D} (h : RDk K H F kvs kds) (g : RD K H F v d) (i : Key) :
    RDk K H F (kvs.map fun kv => if kv.1 = i then (kv.1, v) else kv) (kds.map fun kv => if kv.1 = i then (kv.1, d) else kv) := by
  induction kds generalizing kvs with
  | nil => cases h; exact .nil
  | cons p r ih =>
    obtain ⟨k, e⟩ := p
    cases h with
    | cons a b =>
      simp only [List.map_cons]
      by_cases q : k = i
      · rw [if_pos q, if_pos q]; exact .cons g (ih b)
      · rw [if_neg q, if_neg q]; exact .cons a (ih b)
theorem RDk.put {kvs : List (Key × V)} {kds : List (Key × D)} {v : V} {d : D} (h : RDk K H F kvs kds) (g : RD K H F v d) (i : Key) : RDk K H F (putK kvs i v) (putKD kds i d) := by
  unfold putK putKD
  rw [h.any i]
  split
  · exact h.repl g i
  · exact h.app (.cons g .nil)
theorem RDk.len {kvs : List (Key × V)} {kds : List (Key × D)} (h : RDk K H F kvs kds) : kvs.length = kds.length := by
  induction kds generalizing kvs with
  | nil => cases h; rfl
  | cons p r ih =>
    obtain ⟨k, d⟩ := p
    cases h with
    | cons a b => exact congrArg Nat.succ (ih b)
theorem RDk.val {kvs : List (Key × V)} {kds : List (Key × D)} {d : D} {i : Key} (h : RDk K H F kvs kds) (e : getKD kds i = some d) : ∃ v, valV kvs i = some v ∧ RD K H F v d := by
  induction kds generalizing kvs with
  | nil => cases e
  | cons p r ih =>
    obtain ⟨k, d'⟩ := p
    cases h with
    | cons a b =>
      unfold getKD at e
      split at e
      · rename_i q
        cases e
        exact ⟨_, valV_pos q, a⟩
      · rename_i q
        obtain ⟨v, h1, h2⟩ := ih b e
        exact ⟨v, by rw [valV_neg q]; exact h1, h2⟩
theorem RDk.ints : ∀ {kds : List (Key × D)} {kvs : List (Key × V)} {as : List (Key × Int)}, RDk K H F kvs kds → intsK kds = some as → kvs = as.map fun p => (p.1, V.int p.2)
  | [], _, _, h, e => by
    cases h
    cases e
    rfl
  | (k, d) :: r, _, as, h, e => by
    cases h with
    | cons a b =>
      cases d <;> first | (simp [intsK] at e; done) | skip
      simp only [intsK] at e
      obtain ⟨bs, h1, rfl⟩ := Option.map_eq_some_iff.mp e
      rw [a.isint, RDk.ints b h1]
      rfl
theorem getKI_val : ∀ {bs : List (Key × Int)} {k : Key}, valV (bs.map fun p => (p.1, V.int p.2)) k = (getKI bs k).map V.int
  | [], _ => rfl
  | (j, i) :: r, k => by
    show valV ((j, V.int i) :: r.map fun p => (p.1, V.int p.2)) k = _
    unfold getKI
    by_cases q : j = k
    · rw [if_pos q, valV_pos q]; rfl
    · rw [if_neg q, valV_neg q]; exact getKI_val
theorem hits_int {A : Around} {s : Shared} {bs : List (Key × Int)} {vb : List (Key × Value)} (rb : KV (bs.map fun p => (p.1, V.int p.2)) vb) : ∀ {as : List (Key × Int)} {va : List (Key × Value)}, KV (as.map fun p => (p.1, V.int p.2)) va →
    PySem.W.KeqHits A s vb va (as.all fun p => match getKI bs p.1 with | some b => p.2 == b | none => false)
  | [], _, h => by
    cases h
    exact .nil
  | (k, i) :: r, _, h => by
    cases h with
    | @cons _ q _ qs h t =>
      obtain ⟨k', u⟩ := q
      obtain ⟨h1, h2⟩ := h
      have h1 : k = k' := h1
      subst h1
      obtain ⟨t1, rfl⟩ : ∃ t1, u = .int i t1 := h2
      have rr : RelO (valV (bs.map fun p => (p.1, V.int p.2)) k) (valueAt vb k) := rb.val k
      rw [getKI_val] at rr
      simp only [List.all_cons]
      cases g : getKI bs k with
      | none =>
        rw [g] at rr
        rw [Bool.false_and]
        cases q : valueAt vb k with
        | none => exact .miss q
        | some y => rw [q] at rr; exact rr.elim
      | some b =>
        rw [g] at rr
        cases q : valueAt vb k with
        | none => rw [q] at rr; exact rr.elim
        | some y =>
          rw [q] at rr
          obtain ⟨t2, rfl⟩ : ∃ t2, y = .int b t2 := rr
          exact .hit q (SeqAt.EqAt.int_int i t1 b t2) (hits_int rb t)
theorem RDs.ints : ∀ {ns : List Int} {vs : List V}, RDs K H F vs (ns.map D.int) → vs = ns.map V.int
  | [], _, h => by cases h; rfl
  | n :: ns, _, h => by
    cases h with
    | cons a b => rw [a.isint, RDs.ints b]; rfl
theorem RDs.bls : ∀ {ns : List Bool} {vs : List V}, RDs K H F vs (ns.map D.bl) → vs = ns.map V.bl
  | [], _, h => by cases h; rfl
  | n :: ns, _, h => by
    cases h with
    | cons a b => rw [a.isbl, RDs.bls b]; rfl
theorem allB_eq : ∀ {ds : List D} {bs : List Bool}, allB ds = some bs → ds = bs.map D.bl
  | [], bs, h => by simp [allB] at h; subst h; rfl
  | .bl b :: r, bs, h => by
    simp only [allB, Option.map_eq_some_iff] at h
    obtain ⟨cs, h1, rfl⟩ := h
    rw [allB_eq h1]; rfl
  | .non :: r, bs, h => by simp [allB] at h
  | .int _ :: r, bs, h => by simp [allB] at h
  | .str _ :: r, bs, h => by simp [allB] at h
  | .lst _ :: r, bs, h => by simp [allB] at h
  | .tup _ :: r, bs, h => by simp [allB] at h
  | .dct _ :: r, bs, h => by simp [allB] at h
  | .set _ :: r, bs, h => by simp [allB] at h
  | .scr _ :: r, bs, h => by simp [allB] at h
theorem allI_eq : ∀ {ds : List D} {bs : List Int}, allI ds = some bs → ds = bs.map D.int
  | [], bs, h => by simp [allI] at h; subst h; rfl
  | .int b :: r, bs, h => by
    simp only [allI, Option.map_eq_some_iff] at h
    obtain ⟨cs, h1, rfl⟩ := h
    rw [allI_eq h1]; rfl
  | .non :: r, bs, h => by simp [allI] at h
  | .bl _ :: r, bs, h => by simp [allI] at h
  | .str _ :: r, bs, h => by simp [allI] at h
  | .lst _ :: r, bs, h => by simp [allI] at h
  | .tup _ :: r, bs, h => by simp [allI] at h
  | .dct _ :: r, bs, h => by simp [allI] at h
  | .set _ :: r, bs, h => by simp [allI] at h
  | .scr _ :: r, bs, h => by simp [allI] at h
theorem lim_le : lim ≤ sizeLine := by rw [sizeLine_eq]; decide
theorem maxI_mem : ∀ (r : List Int) (a : Int), maxI a r ∈ a :: r ∧ ∀ y ∈ a :: r, y ≤ maxI a r
  | [], a => by simp [maxI]
  | b :: r, a => by
    unfold maxI
    split
    · rename_i h
      obtain ⟨h1, h2⟩ := maxI_mem r b
      refine ⟨List.mem_cons_of_mem _ h1, fun y hy => ?_⟩
      rcases List.mem_cons.mp hy with e | hy
      · have := h2 b List.mem_cons_self
        omega
      · exact h2 y hy
    · rename_i h
      obtain ⟨h1, h2⟩ := maxI_mem r a
      refine ⟨?_, fun y hy => ?_⟩
      · rcases List.mem_cons.mp h1 with e | e
        · rw [e]; exact List.mem_cons_self
        · exact List.mem_cons_of_mem _ (List.mem_cons_of_mem _ e)
      · rcases List.mem_cons.mp hy with e | hy
        · exact h2 y (by rw [e]; exact List.mem_cons_self)
        · rcases List.mem_cons.mp hy with e | hy
          · have := h2 a List.mem_cons_self
            omega
          · exact h2 y (List.mem_cons_of_mem _ hy)
theorem minI_mem : ∀ (r : List Int) (a : Int), minI a r ∈ a :: r ∧ ∀ y ∈ a :: r, minI a r ≤ y
  | [], a => by simp [minI]
  | b :: r, a => by
    unfold minI
    split
    · rename_i h
      obtain ⟨h1, h2⟩ := minI_mem r b
      refine ⟨List.mem_cons_of_mem _ h1, fun y hy => ?_⟩
      rcases List.mem_cons.mp hy with e | hy
      · have := h2 b List.mem_cons_self
        omega
      · exact h2 y hy
    · rename_i h
      obtain ⟨h1, h2⟩ := minI_mem r a
      refine ⟨?_, fun y hy => ?_⟩
      · rcases List.mem_cons.mp h1 with e | e
        · rw [e]; exact List.mem_cons_self
        · exact List.mem_cons_of_mem _ (List.mem_cons_of_mem _ e)
      · rcases List.mem_cons.mp hy with e | hy
        · exact h2 y (by rw [e]; exact List.mem_cons_self)
        · rcases List.mem_cons.mp hy with e | hy
          · have := h2 a List.mem_cons_self
            omega
          · exact h2 y (List.mem_cons_of_mem _ hy)
theorem atI_map {α β : Type} (f : α → β) (xs : List α) (i : Int) : atI (xs.map f) i = (atI xs i).map f := by
  unfold atI
  rw [List.length_map]
  cases ixN xs.length i with
  | none => rfl
  | some j => simp
theorem RDs.at {ds : List D} {vs : List V} {i : Int} {d : D} (h : RDs K H F vs ds) (e : atI ds i = some d) : ∃ v, atI vs i = some v ∧ RD K H F v d := by
  unfold atI at e ⊢
  rw [h.length]
  cases q : ixN ds.length i with
  | none => rw [q] at e; cases e
  | some j =>
    rw [q] at e
    exact h.get e
theorem RDs.mapInt : ∀ {ns : List Int}, RDs K H F (ns.map V.int) (ns.map D.int)
  | [] => .nil
  | n :: ns => .cons (.int n) RDs.mapInt
/-- a sequence as the library reads it -/
theorem RDT.seq {x : V} {d : D} {ds : List D} (h : RDT K H F x d) (e : seqOf d = some ds) : ∃ a xs, x = .ref a ∧ RDs K H F xs ds ∧ (SqL K H a xs ∨ SqT K H a xs) ∧ ((∃ es, d = .lst es) → H a = some (.lst xs)) := by
  cases d with
  | lst xs =>
    obtain rfl : xs = ds := by simpa [seqOf] using e
    obtain ⟨a, ys, e1, e2, e3⟩ := h.list
    exact ⟨a, ys, e1, e3, .inl (.of e2), fun _ => e2⟩
  | tup xs =>
    obtain rfl : xs = ds := by simpa [seqOf] using e
    obtain ⟨a, ys, e1, e2, e3⟩ := h.tuple
    exact ⟨a, ys, e1, e3, .inr (.of e2), fun ⟨_, z⟩ => by cases z⟩
  | scr ns =>
    obtain rfl : ns.map D.int = ds := by simpa [seqOf] using e
    obtain ⟨a, e1, e2⟩ := h.script
    exact ⟨a, _, e1, RDs.mapInt, .inl e2, fun ⟨_, z⟩ => by cases z⟩
  | _ => simp [seqOf] at e
end

section
variable {X : Cx}
theorem _root_.L2.OpR.imp {f : Value → Value → Sem Value} {r r' : R2} (h : OpR X f r) (i : ∀ x y H Q, r' x y H Q → r x y H Q) : OpR X f r' :=
  fun pins s σ H x y v u Q I rx ry q => h pins s σ H x y v u Q I rx ry (i _ _ _ _ q)
theorem _root_.L2.IxR.imp {r r' : R2} (h : IxR X r) (i : ∀ x y H Q, r' x y H Q → r x y H Q) : IxR X r' :=
  fun value slice pins s σ H x y v u Q I rx ry q hs => h value slice pins s σ H x y v u Q I rx ry (i _ _ _ _ q) hs
theorem _root_.L2.CallR.imp {f : Value} {r r' : List V → Hp → VK → Prop} (h : CallR X f r) (i : ∀ xs H Q, r' xs H Q → r xs H Q) : CallR X f r' :=
  fun pins s σ H xs us Q I rx q => h pins s σ H xs us Q I rx (i _ _ _ q)
theorem _root_.L2.UnR.imp {f : Value → Sem Value} {r r' : V → Hp → VK → Prop} (h : UnR X f r) (i : ∀ xs H Q, r' xs H Q → r xs H Q) : UnR X f r' :=
  fun pins s σ H x v Q I rx q => h pins s σ H x v Q I rx (i _ _ _ q)

theorem vo_add : OpR X (binaryOp .Add) (r2 .add X.K) := by
  refine (op_add.or (op_add_str.or op_cat)).imp fun x y H Q h => ?_
  obtain ⟨F, d, e, r, hF, hx, hy, ho, q⟩ := h
  cases d <;> cases e <;> first | (simp only [op2] at ho; cases ho; done) | skip
  · obtain rfl := Option.some.inj ho
    exact .inl ⟨_, _, hx.int, hy.int, q _ _ .int⟩
  · simp only [op2] at ho
    split at ho
    · rename_i hl
      obtain rfl := Option.some.inj ho
      exact .inr (.inl ⟨_, _, hx.str, hy.str, Nat.le_trans hl lim_le, q _ _ .str⟩)
    · cases ho
  · simp only [op2] at ho
    split at ho
    · rename_i hl
      obtain rfl := Option.some.inj ho
      obtain ⟨a, xs, rfl, e1, r1⟩ := hx.list
      obtain ⟨b, ys, rfl, e2, r2⟩ := hy.list
      exact .inr (.inr ⟨_, _, _, _, rfl, rfl, e1, e2, by rw [r1.length, r2.length]; exact Nat.le_trans hl lim_le, fun p hp => q _ _ (.newl hp hF (r1.append r2))⟩)
    · cases ho
theorem vo_sub : OpR X (binaryOp .Sub) (r2 .sub X.K) := by
  refine op_sub.imp fun x y H Q h => ?_
  obtain ⟨F, d, e, r, hF, hx, hy, ho, q⟩ := h
  cases d <;> cases e <;> first | (simp only [op2] at ho; cases ho; done) | skip
  obtain rfl := Option.some.inj ho
  exact ⟨_, _, hx.int, hy.int, q _ _ .int⟩
theorem small64_iff {i : Int} (h : small64 i = true) : -(2 ^ 64) < i ∧ i < 2 ^ 64 := of_decide_eq_true h
theorem vo_mul : OpR X (binaryOp .Mult) (r2 .mul X.K) := by
  refine (op_mul.or op_rep).imp fun x y H Q h => ?_
  obtain ⟨F, d, e, r, hF, hx, hy, ho, q⟩ := h
  cases d <;> cases e <;> first | (simp only [op2] at ho; cases ho; done) | skip
  · simp only [op2] at ho
    split at ho
    · rename_i hl
      obtain rfl := Option.some.inj ho
      refine .inl ⟨_, _, hx.int, hy.int, ?_, q _ _ .int⟩
      rcases Bool.or_eq_true_iff.mp hl with z | z
      · exact .inl (small64_iff z)
      · exact .inr (small64_iff z)
    · cases ho
  · simp only [op2] at ho
    split at ho
    · rename_i hl
      obtain rfl := Option.some.inj ho
      obtain ⟨a, xs, rfl, e1, r1⟩ := hx.list
      have hl := of_decide_eq_true hl
      have hz : (lim : Int) = 1000000 := rfl
      refine .inr ⟨_, _, _, rfl, hy.int, e1, by omega, by omega, by rw [r1.length]; exact Nat.le_trans hl.2.2 lim_le, fun p hp => q _ _ (.newl hp hF (r1.rep _))⟩
    · cases ho
theorem vo_fdiv : OpR X (binaryOp .FloorDiv) (r2 .fdiv X.K) := by
  refine op_fdiv.imp fun x y H Q h => ?_
  obtain ⟨F, d, e, r, hF, hx, hy, ho, q⟩ := h
  cases d <;> cases e <;> first | (simp only [op2] at ho; cases ho; done) | skip
  simp only [op2] at ho
  split at ho
  · rename_i hl
    obtain rfl := Option.some.inj ho
    have hl' := of_decide_eq_true hl
    exact ⟨_, _, hx.int, hy.int, hl', q _ _ .int⟩
  · cases ho
theorem vo_mod : OpR X (binaryOp .Mod) (r2 .mod X.K) := by
  refine op_mod.imp fun x y H Q h => ?_
  obtain ⟨F, d, e, r, hF, hx, hy, ho, q⟩ := h
  cases d <;> cases e <;> first | (simp only [op2] at ho; cases ho; done) | skip
  simp only [op2] at ho
  split at ho
  · rename_i hl
    obtain rfl := Option.some.inj ho
    have hl' := of_decide_eq_true hl
    exact ⟨_, _, hx.int, hy.int, hl', q _ _ .int⟩
  · cases ho
theorem vo_pow : OpR X (binaryOp .Pow) (r2 .pow X.K) := by
  refine op_pow.imp fun x y H Q h => ?_
  obtain ⟨F, d, e, r, hF, hx, hy, ho, q⟩ := h
  cases d <;> cases e <;> first | (simp only [op2] at ho; cases ho; done) | skip
  simp only [op2] at ho
  split at ho
  · rename_i hl
    obtain rfl := Option.some.inj ho
    have hl' := of_decide_eq_true hl
    exact ⟨_, _, hx.int, hy.int, hl', q _ _ .int⟩
  · cases ho
theorem vo_lt : OpR X (compareOp .Lt) (r2 .lt X.K) := by
  refine op_lt.imp fun x y H Q h => ?_
  obtain ⟨F, d, e, r, hF, hx, hy, ho, q⟩ := h
  cases d <;> cases e <;> first | (simp only [op2] at ho; cases ho; done) | skip
  obtain rfl := Option.some.inj ho
  exact ⟨_, _, hx.int, hy.int, q _ _ .bl⟩
theorem vo_le : OpR X (compareOp .LtE) (r2 .le X.K) := by
  refine op_le.imp fun x y H Q h => ?_
  obtain ⟨F, d, e, r, hF, hx, hy, ho, q⟩ := h
  cases d <;> cases e <;> first | (simp only [op2] at ho; cases ho; done) | skip
  obtain rfl := Option.some.inj ho
  exact ⟨_, _, hx.int, hy.int, q _ _ .bl⟩
theorem vo_gt : OpR X (compareOp .Gt) (r2 .gt X.K) := by
  refine op_gt.imp fun x y H Q h => ?_
  obtain ⟨F, d, e, r, hF, hx, hy, ho, q⟩ := h
  cases d <;> cases e <;> first | (simp only [op2] at ho; cases ho; done) | skip
  obtain rfl := Option.some.inj ho
  exact ⟨_, _, hx.int, hy.int, q _ _ .bl⟩
theorem vo_ge : OpR X (compareOp .GtE) (r2 .ge X.K) := by
  refine op_ge.imp fun x y H Q h => ?_
  obtain ⟨F, d, e, r, hF, hx, hy, ho, q⟩ := h
  cases d <;> cases e <;> first | (simp only [op2] at ho; cases ho; done) | skip
  obtain rfl := Option.some.inj ho
  exact ⟨_, _, hx.int, hy.int, q _ _ .bl⟩
theorem eqP_some {a b : D} {c : Bool} (h : eqP a b = some c) : (∃ x y, a = .str x ∧ b = .str y ∧ c = decide (x = y)) ∨ (∃ x y, a = .dct x ∧ b = .dct y ∧ eqDct x y = some c) ∨ plain a = true ∧ plain b = true ∧ SeqAt.shaped (toP a) = true ∧ SeqAt.shaped (toP b) = true ∧ c = PyData.eqv (toP a) (toP b) := by
  unfold eqP okEq at h
  split at h
  · exact .inl ⟨_, _, rfl, rfl, (Option.some.inj h).symm⟩
  · exact .inr (.inl ⟨_, _, rfl, rfl, h⟩)
  · split at h
    · rename_i q
      simp only [Bool.and_eq_true] at q
      exact .inr (.inr ⟨q.1.1, q.2.1, q.1.2, q.2.2, (Option.some.inj h).symm⟩)
    · cases h
theorem dec_strV {x y : Str} : decide (V.str x = V.str y) = decide (x = y) := by
  by_cases h : x = y
  · subst h; simp
  · simp [h]
def rDct (n : Bool) : R2 := fun x y H Q => ∃ a b as bs, x = .ref a ∧ y = .ref b ∧ H a = some (.dK (as.map fun p => (p.1, V.int p.2))) ∧ H b = some (.dK (bs.map fun p => (p.1, V.int p.2))) ∧ Q (.bl (if n then !eqKI as bs else eqKI as bs)) H
theorem op_eq_dct (hu : X.A.units + 64 < cLine) : OpR X (compareOp .Eq) (rDct false) := by
  intro pins s σ H x y v u Q I rx ry h
  obtain ⟨a, b, ks, ls, rfl, rfl, ea, eb, q⟩ := h
  obtain rfl : v = Value.ref a := rx
  obtain rfl : u = Value.ref b := ry
  obtain ⟨_, ya, va, ra, da⟩ := (show ObjOk X.prog X.w H s.heap a (.dK _) from I.hok a _ ea)
  obtain ⟨_, yb, vb, rb, db⟩ := (show ObjOk X.prog X.w H s.heap b (.dK _) from I.hok b _ eb)
  have l1 := ra.length
  have l2 := rb.length
  rw [List.length_map] at l1 l2
  refine PySem.W.keq_eq (knd := mixKind X.prog X.w) ya yb da db (by omega) (fun _ => hits_int rb ra) (fin_bl I q ?_)
  rw [← l1, ← l2]; rfl
theorem op_ne_dct (hu : X.A.units + 64 < cLine) : OpR X (compareOp .NotEq) (rDct true) := by
  intro pins s σ H x y v u Q I rx ry h
  obtain ⟨a, b, ks, ls, rfl, rfl, ea, eb, q⟩ := h
  obtain rfl : v = Value.ref a := rx
  obtain rfl : u = Value.ref b := ry
  obtain ⟨_, ya, va, ra, da⟩ := (show ObjOk X.prog X.w H s.heap a (.dK _) from I.hok a _ ea)
  obtain ⟨_, yb, vb, rb, db⟩ := (show ObjOk X.prog X.w H s.heap b (.dK _) from I.hok b _ eb)
  have l1 := ra.length
  have l2 := rb.length
  rw [List.length_map] at l1 l2
  refine PySem.W.keq_ne (knd := mixKind X.prog X.w) ya yb da db (by omega) (fun _ => hits_int rb ra) (fin_bl I q ?_)
  rw [← l1, ← l2]; rfl
theorem dct_ops {K : PySem.W.Frag} {H : Hp} {F : AP} {x y : V} {xs ys : List (Key × D)} {c : Bool} (hx : RDT K H F x (.dct xs)) (hy : RDT K H F y (.dct ys)) (e : eqDct xs ys = some c) :
    ∃ a b as bs, x = .ref a ∧ y = .ref b ∧ H a = some (.dK (as.map fun p => (p.1, V.int p.2))) ∧ H b = some (.dK (bs.map fun p => (p.1, V.int p.2))) ∧ c = eqKI as bs := by
  obtain ⟨a, xs', rfl, e1, r1⟩ := hx.dict
  obtain ⟨b, ys', rfl, e2, r2⟩ := hy.dict
  unfold eqDct at e
  split at e
  · rename_i as bs h1 h2
    cases e
    rw [r1.ints h1] at e1
    rw [r2.ints h2] at e2
    exact ⟨a, b, as, bs, rfl, rfl, e1, e2, rfl⟩
  · cases e
theorem vo_eq (hu : X.A.units + 64 < cLine) : OpR X (compareOp .Eq) (r2 .eq X.K) := by
  refine (op_eq.or ((op_eq_dct hu).or (op_eqD hu))).imp fun x y H Q h => ?_
  obtain ⟨F, d, e, r, hF, hx, hy, ho, q⟩ := h
  obtain ⟨c, h1, rfl⟩ := Option.map_eq_some_iff.mp (show (eqP d e).map D.bl = some r from ho)
  rcases eqP_some h1 with ⟨u, v, rfl, rfl, rfl⟩ | ⟨xs, ys, rfl, rfl, e⟩ | ⟨p1, p2, s1, s2, rfl⟩
  rotate_left 1
  · obtain ⟨a, b, as, bs, rfl, rfl, e1, e2, rfl⟩ := dct_ops hx hy e
    exact .inr (.inl ⟨a, b, as, bs, rfl, rfl, e1, e2, q _ _ .bl⟩)
  rotate_left 1
  · refine .inl ?_
    rw [hx.str, hy.str]
    refine ⟨rfl, ?_⟩
    rw [dec_strV]
    exact q _ _ .bl
  · exact .inr (.inr ⟨_, _, hx.dp p1, hy.dp p2, s1, s2, q _ _ .bl⟩)
theorem vo_ne (hu : X.A.units + 64 < cLine) : OpR X (compareOp .NotEq) (r2 .ne X.K) := by
  refine (op_ne.or ((op_ne_dct hu).or (op_neD hu))).imp fun x y H Q h => ?_
  obtain ⟨F, d, e, r, hF, hx, hy, ho, q⟩ := h
  obtain ⟨c, h1, rfl⟩ := Option.map_eq_some_iff.mp (show (eqP d e).map (fun c => D.bl (!c)) = some r from ho)
  rcases eqP_some h1 with ⟨u, v, rfl, rfl, rfl⟩ | ⟨xs, ys, rfl, rfl, e⟩ | ⟨p1, p2, s1, s2, rfl⟩
  rotate_left 1
  · obtain ⟨a, b, as, bs, rfl, rfl, e1, e2, rfl⟩ := dct_ops hx hy e
    exact .inr (.inl ⟨a, b, as, bs, rfl, rfl, e1, e2, q _ _ .bl⟩)
  rotate_left 1
  · refine .inl ?_
    rw [hx.str, hy.str]
    refine ⟨rfl, ?_⟩
    rw [dec_strV]
    exact q _ _ .bl
  · exact .inr (.inr ⟨_, _, hx.dp p1, hy.dp p2, s1, s2, q _ _ .bl⟩)
theorem any_toPs (p : PyData → Bool) : ∀ xs : List D, (toPs xs).any p = xs.any fun z => p (toP z)
  | [] => rfl
  | x :: xs => by simp only [toPs, List.any_cons, any_toPs p xs]
theorem vo_in (hu : X.A.units + 65 < cLine) : OpR X (compareOp .In) (r2 .inn X.K) := by
  refine ((op_inD hu).or op_in_sign).imp fun x y H Q h => ?_
  obtain ⟨F, d, e, r, hF, hx, hy, ho, q⟩ := h
  cases e with
  | lst xs =>
    have ho' : (if okEq d && okEq (.lst xs) then some (D.bl (xs.any fun z => PyData.eqv (toP z) (toP d))) else none) = some r := by cases d <;> exact ho
    split at ho'
    · rename_i q1
      obtain rfl := Option.some.inj ho'
      simp only [okEq, Bool.and_eq_true] at q1
      refine .inl ⟨toP d, toPs xs, hx.dp q1.1.1, hy.dp q1.2.1, q1.1.2, q1.2.2, ?_⟩
      rw [any_toPs fun z => PyData.eqv z (toP d)]
      exact q _ _ .bl
    · cases ho'
  | str z =>
    cases d with
    | str x' =>
      have ho' : (match x'.cps.toList with | [c] => some (D.bl (decide (c ∈ z.cps.toList))) | _ => none) = some r := ho
      split at ho'
      · rename_i c hc
        obtain rfl := Option.some.inj ho'
        refine .inr ⟨c, z, ?_, hy.str, q _ _ .bl⟩
        rw [hx.str]
        congr 1
        have : x'.cps = #[c] := by rw [← Array.toList_inj]; exact hc
        cases x'; simp only at this; rw [this]
      · cases ho'
    | _ => cases ho
  | _ => cases d <;> cases ho
theorem vo_nin (hu : X.A.units + 65 < cLine) : OpR X (compareOp .NotIn) (r2 .nin X.K) := by
  refine (op_notInD hu).imp fun x y H Q h => ?_
  obtain ⟨F, d, e, r, hF, hx, hy, ho, q⟩ := h
  cases e with
  | lst xs =>
    have ho' : (if okEq d && okEq (.lst xs) then some (D.bl (!xs.any fun z => PyData.eqv (toP z) (toP d))) else none) = some r := by cases d <;> exact ho
    split at ho'
    · rename_i q1
      obtain rfl := Option.some.inj ho'
      simp only [okEq, Bool.and_eq_true] at q1
      refine ⟨toP d, toPs xs, hx.dp q1.1.1, hy.dp q1.2.1, q1.1.2, q1.2.2, ?_⟩
      rw [any_toPs fun z => PyData.eqv z (toP d)]
      exact q _ _ .bl
    · cases ho'
  | _ => cases d <;> cases ho
theorem insI_perm (a : Int) : ∀ r : List Int, (insI a r).Perm (a :: r)
  | [] => .refl _
  | b :: r => by
    unfold insI
    split
    · exact .refl _
    · exact ((insI_perm a r).cons b).trans (List.Perm.swap a b r)
theorem isort_perm : ∀ r : List Int, (isort r).Perm r
  | [] => .refl _
  | a :: r => (insI_perm a _).trans ((isort_perm r).cons a)
theorem insI_pw (a : Int) : ∀ r : List Int, r.Pairwise (· ≤ ·) → (insI a r).Pairwise (· ≤ ·)
  | [], _ => by simp [insI]
  | b :: r, h => by
    unfold insI
    obtain ⟨h1, h2⟩ := List.pairwise_cons.mp h
    split
    · rename_i hab
      refine List.pairwise_cons.mpr ⟨fun z hz => ?_, h⟩
      rcases List.mem_cons.mp hz with e | hz
      · rw [e]; exact hab
      · exact Int.le_trans hab (h1 z hz)
    · rename_i hab
      refine List.pairwise_cons.mpr ⟨fun z hz => ?_, insI_pw a r h2⟩
      rcases List.mem_cons.mp ((insI_perm a r).mem_iff.mp hz) with e | hz
      · rw [e]; omega
      · exact h1 z hz
theorem isort_pw : ∀ r : List Int, (isort r).Pairwise (· ≤ ·)
  | [] => .nil
  | a :: r => insI_pw a _ (isort_pw r)
theorem sorted_eq : ∀ {a b : List Int}, a.Perm b → a.Pairwise (· ≤ ·) → b.Pairwise (· ≤ ·) → a = b
  | [], b, p, _, _ => by rw [p.nil_eq]
  | x :: a, [], p, _, _ => by cases p.symm.nil_eq
  | x :: a, y :: b, p, h1, h2 => by
    obtain ⟨g1, g2⟩ := List.pairwise_cons.mp h1
    obtain ⟨g3, g4⟩ := List.pairwise_cons.mp h2
    have e : x = y := by
      have m1 : x ∈ y :: b := p.mem_iff.mp (List.mem_cons_self ..)
      have m2 : y ∈ x :: a := p.mem_iff.mpr (List.mem_cons_self ..)
      rcases List.mem_cons.mp m1 with e | m1
      · exact e
      · rcases List.mem_cons.mp m2 with e | m2
        · exact e.symm
        · exact Int.le_antisymm (g1 _ m2) (g3 _ m1)
    subst e
    rw [sorted_eq (List.Perm.cons_inv p) g2 g4]
theorem ix_dct (hu : X.A.units + 1 < cLine) : IxR X (fun x y H Q => ∃ a kvs i v, x = .ref a ∧ y = .int i ∧ H a = some (.dK kvs) ∧ valV kvs (.inl i) = some v ∧ Q v H) := by
  intro value slice pins s σ H x y v u Q I rx ry h hs
  obtain ⟨a, kvs, i, w, rfl, rfl, e, l, q⟩ := h
  obtain rfl : v = Value.ref a := rx
  have g : DGet H a (kV (.inl i)) (some w) := by rw [← l]; exact DGet.k e
  have hT := dict_typeIs I g
  unfold subscriptTail
  refine wpAny_bind ?_
  rw [getitemInPython_of_ne hT.not_modules]
  refine wpAny_bind (wpAny_specialOf hT PySem.F.slot_dict_getitem.lookup ?_)
  have h2 : wpAny (model X.prog X.w) X.A (getItem (.ref a) u) (EP X pins σ Q) X.xe s := d_getItem hu I g ry fun w' s3 I3 rw' => ⟨w, H, I3, rw', q⟩
  have fin : wpAny (model X.prog X.w) X.A (subscripted slice false (.ref a) u) (fun r s₃ => wpAny (model X.prog X.w) X.A (letTemporaryGo value (.ref a) r >>= fun _ => pure r) (EP X pins σ Q) X.xe s₃) X.xe s := by
    rw [hs]
    exact wpAny_operating (wpAny_mono h2 (fun r s₃ h₃ => wpAny_bind (wpAny_letTemporaryGo (wpAny_pure h₃))) fun _ _ x => x)
  first
    | exact wpAny_pure (wpAny_bind fin)
    | exact wpAny_bind (wpAny_pure (wpAny_bind fin))
    | exact wpAny_bind fin
theorem vo_idx (hu : X.A.units + 64 < cLine) : IxR X (r2 .idx X.K) := by
  refine (ix_seq.or (ix_dct (by omega))).imp fun x y H Q h => ?_
  obtain ⟨F, d, e, r, hF, hx, hy, ho, q⟩ := h
  cases d <;> cases e <;> first | (simp only [op2] at ho; cases ho; done) | skip
  · simp only [op2] at ho
    split at ho
    · rename_i hl
      obtain ⟨c, h1, rfl⟩ := Option.map_eq_some_iff.mp ho
      exact .inl (.inr (.inr ⟨_, _, c, hx.str, hy.int, Nat.le_trans hl lim_le, h1, q _ _ .str⟩))
    · cases ho
  · obtain ⟨a, xs, rfl, e1, r1⟩ := hx.list
    obtain ⟨v, h1, h2⟩ := r1.at (show atI _ _ = some r from ho)
    exact .inl (.inl ⟨_, _, _, v, rfl, hy.int, .of e1, h1, q _ _ (.old h2)⟩)
  · obtain ⟨a, xs, rfl, e1, r1⟩ := hx.tuple
    obtain ⟨v, h1, h2⟩ := r1.at (show atI _ _ = some r from ho)
    exact .inl (.inr (.inl ⟨_, _, _, v, rfl, hy.int, .of e1, h1, q _ _ (.old h2)⟩))
  · obtain ⟨a, kvs, rfl, e1, r1⟩ := hx.dict
    obtain ⟨v, h1, h2⟩ := r1.val (show getKD _ _ = some r from ho)
    exact .inr ⟨_, _, _, v, rfl, hy.int, e1, h1, q _ _ (.old h2)⟩
  · obtain ⟨a, rfl, e1⟩ := hx.script
    obtain ⟨v, h1, h2⟩ := (RDs.mapInt (K := X.K) (H := H) (F := F)).at (show atI _ _ = some r from ho)
    exact .inl (.inl ⟨_, _, _, v, rfl, hy.int, e1, h1, q _ _ (.old h2)⟩)
/-- f(x, y) -/
def rc2 (p : P2) (K : PySem.W.Frag) : List V → Hp → VK → Prop := fun xs H Q => ∃ x y, xs = [x, y] ∧ r2 p K x y H Q
def rc1 (p : P1) (K : PySem.W.Frag) : List V → Hp → VK → Prop := fun xs H Q => ∃ x, xs = [x] ∧ r1 p K x H Q
theorem vo_max2 (hc : X.calm = true) : CallR X (.builtin "max") (rc2 .max2 X.K) := by
  refine (call_max2 hc).imp fun xs H Q h => ?_
  obtain ⟨x, y, rfl, F, d, e, r, hF, hx, hy, ho, q⟩ := h
  cases d <;> cases e <;> first | (simp only [op2] at ho; cases ho; done) | skip
  obtain rfl := Option.some.inj ho
  exact ⟨_, _, by rw [hx.int, hy.int], q _ _ .int⟩
theorem vo_min2 (hc : X.calm = true) : CallR X (.builtin "min") (rc2 .min2 X.K) := by
  refine (call_min2 hc).imp fun xs H Q h => ?_
  obtain ⟨x, y, rfl, F, d, e, r, hF, hx, hy, ho, q⟩ := h
  cases d <;> cases e <;> first | (simp only [op2] at ho; cases ho; done) | skip
  obtain rfl := Option.some.inj ho
  exact ⟨_, _, by rw [hx.int, hy.int], q _ _ .int⟩
theorem vo_len : CallR X (.builtin "len") (rc1 .len X.K) := by
  refine (call_len_seq.or call_len_str).imp fun xs H Q h => ?_
  obtain ⟨x, rfl, F, d, r, hF, hx, ho, q⟩ := h
  cases d <;> first | (simp only [op1] at ho; cases ho; done) | skip
  · simp only [op1] at ho
    split at ho
    · rename_i hl
      obtain rfl := Option.some.inj ho
      exact .inr ⟨_, by rw [hx.str], Nat.le_trans hl lim_le, q _ _ .int⟩
    · cases ho
  · obtain rfl := Option.some.inj ho
    obtain ⟨a, xs, rfl, e1, r1⟩ := hx.list
    exact .inl ⟨_, _, rfl, .inl (.of e1), by rw [r1.length]; exact q _ _ .int⟩
  · obtain rfl := Option.some.inj ho
    obtain ⟨a, xs, rfl, e1, r1⟩ := hx.tuple
    exact .inl ⟨_, _, rfl, .inr (.of e1), by rw [r1.length]; exact q _ _ .int⟩
  · obtain rfl := Option.some.inj ho
    obtain ⟨a, rfl, e1⟩ := hx.script
    exact .inl ⟨_, _, rfl, .inl e1, by rw [List.length_map]; exact q _ _ .int⟩
theorem vo_int : CallR X (.type "int") (rc1 .int_ X.K) := by
  refine call_int1.imp fun xs H Q h => ?_
  obtain ⟨x, rfl, F, d, r, hF, hx, ho, q⟩ := h
  cases d <;> first | (simp only [op1] at ho; cases ho; done) | skip
  · obtain rfl := Option.some.inj ho
    exact .inr ⟨_, by rw [hx.bl], q _ _ .int⟩
  · obtain rfl := Option.some.inj ho
    exact .inl ⟨_, by rw [hx.int], q _ _ .int⟩
theorem vo_bool : CallR X (.type "bool") (rc1 .bool_ X.K) := by
  refine call_boolL.imp fun xs H Q h => ?_
  obtain ⟨x, rfl, F, d, r, hF, hx, ho, q⟩ := h
  cases d <;> first | (simp only [op1] at ho; cases ho; done) | skip
  obtain rfl := Option.some.inj ho
  obtain ⟨a, xs, rfl, e1, r1⟩ := hx.list
  refine ⟨a, xs, rfl, .inl (.inl e1), ?_⟩
  have : (!xs.isEmpty) = !(List.isEmpty ‹List D›) := by cases r1 <;> rfl
  rw [this]
  exact q _ _ .bl
/-- a value's truth -/
theorem truV_ok {H : Hp} {F : AP} {v : V} {d : D} {c : Bool} (h : RD X.K H F v d) (e : truth d = some c) : TruV X.K v H c := by
  cases d with
  | non => cases h; injection e with e; exact e.symm
  | bl b => cases h; injection e with e; exact e.symm
  | int i => cases h; injection e with e; exact e.symm
  | str x =>
    cases h
    simp only [truth] at e
    split at e
    · rename_i hl
      injection e with e
      refine ⟨Nat.le_trans hl (by decide +kernel), ?_⟩
      rw [← e]
      cases x.length <;> rfl
    · cases e
  | lst ds =>
    cases h with
    | lst f e1 r =>
      injection e with e
      refine .inl ⟨_, .inl (.inl e1), ?_⟩
      rw [← e]
      cases r <;> rfl
  | tup ds =>
    cases h with
    | tup f e1 r =>
      injection e with e
      refine .inr (.inl ⟨_, .inl (.of e1), ?_⟩)
      rw [← e]
      cases r <;> rfl
  | dct ds => cases e
  | set ds => cases e
  | scr ds => cases e
theorem vo_abs : CallR X (.builtin "abs") (rc1 .abs_ X.K) := by
  refine call_abs.imp fun xs H Q h => ?_
  obtain ⟨x, rfl, F, d, r, hF, hx, ho, q⟩ := h
  cases d <;> first | (simp only [op1] at ho; cases ho; done) | skip
  obtain rfl := Option.some.inj ho
  exact ⟨_, by rw [hx.int], q _ _ .int⟩
theorem vo_all (hc : X.calm = true) : CallR X (.builtin "all") (rc1 .all_ X.K) := by
  refine (cr_all hc).imp fun xs H Q h => ?_
  obtain ⟨x, rfl, F, d, r, hF, hx, ho, q⟩ := h
  cases d <;> first | (simp only [op1] at ho; cases ho; done) | skip
  obtain ⟨bs, h1, rfl⟩ := Option.map_eq_some_iff.mp (show (allB _).map (fun bs => D.bl (bs.all id)) = some r from ho)
  have e := allB_eq h1
  subst e
  obtain ⟨a, xs, rfl, e1, r1⟩ := hx.list
  have := r1.bls
  subst this
  exact ⟨_, _, rfl, .of e1, q _ _ .bl⟩
theorem vo_any (hc : X.calm = true) : CallR X (.builtin "any") (rc1 .any_ X.K) := by
  refine (cr_any hc).imp fun xs H Q h => ?_
  obtain ⟨x, rfl, F, d, r, hF, hx, ho, q⟩ := h
  cases d <;> first | (simp only [op1] at ho; cases ho; done) | skip
  obtain ⟨bs, h1, rfl⟩ := Option.map_eq_some_iff.mp (show (allB _).map (fun bs => D.bl (bs.any id)) = some r from ho)
  have e := allB_eq h1
  subst e
  obtain ⟨a, xs, rfl, e1, r1⟩ := hx.list
  have := r1.bls
  subst this
  exact ⟨_, _, rfl, .of e1, q _ _ .bl⟩
theorem vo_sum (hc : X.calm = true) : CallR X (.builtin "sum") (rc1 .sum_ X.K) := by
  refine (cr_sum hc).imp fun xs H Q h => ?_
  obtain ⟨x, rfl, F, d, r, hF, hx, ho, q⟩ := h
  cases d <;> first | (simp only [op1] at ho; cases ho; done) | skip
  obtain ⟨bs, h1, rfl⟩ := Option.map_eq_some_iff.mp (show (allI _).map (fun bs => D.int bs.sum) = some r from ho)
  have e := allI_eq h1
  subst e
  obtain ⟨a, xs, rfl, e1, r1⟩ := hx.list
  have := r1.ints
  subst this
  exact ⟨_, _, rfl, .of e1, q _ _ .int⟩
theorem vo_maxL (hc : X.calm = true) : CallR X (.builtin "max") (rc1 .maxL X.K) := by
  refine (cr_max hc).imp fun xs H Q h => ?_
  obtain ⟨x, rfl, F, d, r, hF, hx, ho, q⟩ := h
  cases d <;> first | (simp only [op1] at ho; cases ho; done) | skip
  rename_i ds
  simp only [op1] at ho
  split at ho
  · rename_i a l h1
    obtain rfl := Option.some.inj ho
    have e := allI_eq h1
    subst e
    obtain ⟨b, xs, rfl, e1, r1⟩ := hx.list
    have := r1.ints
    subst this
    refine ⟨_, a :: l, rfl, .of e1, Nat.succ_pos _, fun m hm hy => ?_⟩
    obtain ⟨z1, z2⟩ := maxI_mem l a
    have e : m = maxI a l := Int.le_antisymm (z2 m hm) (hy _ z1)
    rw [e]; exact q _ _ .int
  · cases ho
theorem vo_minL (hc : X.calm = true) : CallR X (.builtin "min") (rc1 .minL X.K) := by
  refine (cr_min hc).imp fun xs H Q h => ?_
  obtain ⟨x, rfl, F, d, r, hF, hx, ho, q⟩ := h
  cases d <;> first | (simp only [op1] at ho; cases ho; done) | skip
  rename_i ds
  simp only [op1] at ho
  split at ho
  · rename_i a l h1
    obtain rfl := Option.some.inj ho
    have e := allI_eq h1
    subst e
    obtain ⟨b, xs, rfl, e1, r1⟩ := hx.list
    have := r1.ints
    subst this
    refine ⟨_, a :: l, rfl, .of e1, Nat.succ_pos _, fun m hm hy => ?_⟩
    obtain ⟨z1, z2⟩ := minI_mem l a
    have e : m = minI a l := Int.le_antisymm (hy _ z1) (z2 m hm)
    rw [e]; exact q _ _ .int
  · cases ho
theorem vo_listOf : CallR X (.type "list") (rc1 .listOf X.K) := by
  refine call_list_of.imp fun xs H Q h => ?_
  obtain ⟨x, rfl, F, d, r, hF, hx, ho, q⟩ := h
  obtain ⟨ds, h1, rfl⟩ := Option.map_eq_some_iff.mp (show (seqOf d).map D.lst = some r from ho)
  obtain ⟨a, xs, rfl, r1, s1, _⟩ := hx.seq h1
  exact ⟨_, _, rfl, s1, fun p hp => q _ _ (.newl hp hF r1)⟩
theorem vo_dictOf : CallR X (.type "dict") (rc1 .dictOf X.K) := by
  intro pins s σ H xs us Q I rx h
  obtain ⟨x, rfl, F, d, r, hF, hx, ho, q⟩ := h
  cases d <;> first | (simp only [op1] at ho; cases ho; done) | skip
  cases (show some (D.dct _) = some r from ho)
  obtain ⟨a, kvs, rfl, e1, r1⟩ := hx.dict
  cases rx with
  | cons ra rb =>
    cases rb
    rename_i u
    obtain rfl : u = Value.ref a := ra
    exact d_copyOf I (.inl e1) fun p s' hp I' => ⟨.ref p, _, I', rfl, q _ _ (.newd hp hF r1)⟩
theorem vo_sorted : CallR X (.builtin "sorted") (rc1 .sorted_ X.K) := by
  refine cr_sortedI.imp fun xs H Q h => ?_
  obtain ⟨x, rfl, F, d, r, hF, hx, ho, q⟩ := h
  cases d <;> first | (simp only [op1] at ho; cases ho; done) | skip
  obtain ⟨is, h1, rfl⟩ := Option.map_eq_some_iff.mp (show (allI _).map (fun is => D.lst ((isort is).map .int)) = some r from ho)
  have e := allI_eq h1
  subst e
  obtain ⟨a, xs, rfl, e1, r1⟩ := hx.list
  have := r1.ints
  subst this
  refine ⟨_, _, rfl, .of e1, fun ns p hp1 hp2 hp => ?_⟩
  have e : ns = isort is := sorted_eq (hp1.trans (isort_perm is).symm) hp2 (isort_pw is)
  subst e
  exact q _ _ (.newl hp hF RDs.mapInt)
theorem vo_neg : UnR X (unaryOp .USub) (r1 .neg X.K) := by
  refine un_neg.imp fun x H Q h => ?_
  obtain ⟨F, d, r, hF, hx, ho, q⟩ := h
  cases d <;> first | (simp only [op1] at ho; cases ho; done) | skip
  obtain rfl := Option.some.inj ho
  exact ⟨_, hx.int, q _ _ .int⟩
/-- repr of data -/
theorem vo_repr (hg : X.A.guards = some []) (hu : X.A.units + 100 < cLine) : CallR X (.builtin "repr") (rc1 .repr_ X.K) := by
  intro pins s σ H xs us Q I r h
  obtain ⟨x, rfl, F, d, r', hF, hx, ho, q⟩ := h
  obtain ⟨u, rfl, ru⟩ := vals1 r
  simp only [op1] at ho
  split at ho
  · rename_i hk
    obtain rfl := Option.some.inj ho
    simp only [okRepr, Bool.and_eq_true, decide_eq_true_eq] at hk
    obtain ⟨⟨⟨⟨hseq, hp⟩, hs⟩, hd⟩, hz⟩ := hk
    have hz' := Nat.le_trans hz lim_le
    obtain ⟨as, rr⟩ := Dp.reads I _ _ _ (hx.dp hp) ru
    have nod : (toP d).hasDict = true → sysModules ∉ as := by
      have : ∀ d : D, (toP d).hasDict = false := by
        intro d
        have := (show (∀ d : D, (toP d).hasDict = false) from by
          intro d
          exact VS.D.rec (motive_1 := fun d => (toP d).hasDict = false) (motive_2 := fun ds => PyData.hasDictAll (toPs ds) = false) (motive_3 := fun _ => True) (motive_4 := fun _ => True)
            (by simp [toP, PyData.hasDict]) (by simp [toP, PyData.hasDict]) (by simp [toP, PyData.hasDict]) (by simp [toP, PyData.hasDict]) (fun xs h => by simpa [toP, PyData.hasDict] using h) (fun xs h => by simpa [toP, PyData.hasDict] using h)
            (by intros; simp [toP, PyData.hasDict]) (by simp [toP, PyData.hasDict]) (by simp [toP, PyData.hasDict]) (by simp [toPs, PyData.hasDictAll]) (fun a b h1 h2 => by simp [toPs, PyData.hasDictAll, h1, h2]) trivial (fun _ _ _ _ => trivial) (fun _ _ _ => trivial) d)
        exact this d
      exact PyData.noDict_hsm (this d)
    have hu' : ∃ a, u = Value.ref a := by
      cases d <;> first | (simp [isSeq] at hseq; done) | skip
      · obtain ⟨a, xs, rfl, _⟩ := hx.list
        exact ⟨a, ru⟩
      · obtain ⟨a, xs, rfl, _⟩ := hx.tuple
        exact ⟨a, ru⟩
    obtain ⟨a, rfl⟩ := hu'
    exact repr_of_reads' rr hs nod hg (by omega) (fun _ _ e => e) (fun h' u tk hk => ⟨.str _, H, I.kept (t' := tk) hk, ⟨_, rfl⟩, q _ _ .str⟩) hz'
  · cases ho
end
end VS

set_option maxHeartbeats 400000
/-! V4: defs whose promise is kept where no repr is under way; their calls; the law's own call. -/
namespace VS
open PySem PySem.Spec PyProof.Rows L2

/-- a def keeps its promise wherever there is room and no repr is under way -/
structure FnG (P : Program) (w : World) (K : PySem.W.Frag) (mg : Str → Option Value) (base : Heap) (CX : CXT) (k : Nat) (f : Addr) (fd : FuncData) (ps : List Str) (sp : Sp) : Prop where
  len : ∀ {vs H Q E}, sp vs H Q E → vs.length = ps.length
  run : ∀ {A : Around} {outer : List Env} {s : Shared} {H : Hp} {args : Args} {us : List Value} {vs : List V} {Q : VK} {E : XK}, A.guards = some [] → Room k A →
    Env0 P w K mg base A outer s H → BindsTo s fd args (ps.zip us) → Vals vs us → sp vs H Q E → codeAny (model P w) A (.call (.ref f) args) (CR CX outer P w H s Q E) s
theorem FnG.mono {P : Program} {w : World} {K : PySem.W.Frag} {mg : Str → Option Value} {base : Heap} {CX : CXT} {j k : Nat} {f : Addr} {fd : FuncData} {ps : List Str} {sp : Sp}
    (F : FnG P w K mg base CX j f fd ps sp) (h : j ≤ k) : FnG P w K mg base CX k f fd ps sp := ⟨F.len, fun hg hr => F.run hg (hr.mono h)⟩
theorem FnG.of_fnok {P : Program} {w : World} {K : PySem.W.Frag} {mg : Str → Option Value} {base : Heap} {CX : CXT} {k : Nat} {f : Addr} {fd : FuncData} {ps : List Str} {sp : Sp}
    (F : FnOk P w K mg base CX k f fd ps sp) : FnG P w K mg base CX k f fd ps sp := ⟨fun h => F.len _ _ _ _ h, fun _ hr he hb hv h => F.run _ _ _ _ _ _ _ _ _ hr he hb hv h⟩

section
variable {X : Cx} {CX : CXT} {k : Nat} {f : Addr} {fd : FuncData} {ps : List Str} {sp : Sp} {dvs : List V} {ds : List Value} {E : XK} {x : Str} {p pos : Pos} {e : Expr} {es : List Expr} {t : TA}
/-- a call by values -/
theorem call_g {pins : List (Addr × Obj)} {σ : L2.St} {H : Hp} {s : Shared} {Q : VK} {us : List Value} {vs : List V} (F : FnG X.prog X.w X.K X.mg X.base CX k f fd ps sp) (hg : X.A.guards = some []) (hr : Room k X.A)
    (hb : BindsTo s fd ⟨us, []⟩ (ps.zip us)) (hx : Passes CX X E) (I : Inv X pins σ H s) (r : Vals vs us) (h : sp vs H Q E) :
    wpAny (model X.prog X.w) X.A (call (.ref f) us) (EP X pins σ Q) X.xe s :=
  wpAny_call <| codeAny_mono (F.run hg hr I.env0 hb r h) fun res s' hq => match res, hq with
    | .ok (.ret u), hq => I.after hq
    | .error ex, hq => hx pins σ H s ex s' I hq
theorem call_gk {pins : List (Addr × Obj)} {σ : L2.St} {H : Hp} {s : Shared} {Q : VK} {us ws zs : List Value} {vs : List V} {ks : List Str} (F : FnG X.prog X.w X.K X.mg X.base CX k f fd ps sp) (hg : X.A.guards = some []) (hr : Room k X.A)
    (hb : BindsTo s fd ⟨us, ks.zip ws⟩ (ps.zip zs)) (hx : Passes CX X E) (I : Inv X pins σ H s) (r : Vals vs zs) (h : sp vs H Q E) :
    wpAny (model X.prog X.w) X.A (call (.ref f) us (ks.zip ws)) (EP X pins σ Q) X.xe s :=
  wpAny_call <| codeAny_mono (F.run hg hr I.env0 hb r h) fun res s' hq => match res, hq with
    | .ok (.ret u), hq => I.after hq
    | .error ex, hq => hx pins σ H s ex s' I hq
/-- how a def binds np values by their places, the others by their names -/
def BindsK (K : PySem.W.Frag) (fd : FuncData) (ps : List Str) (np : Nat) : Prop := ∀ (s : Shared) (us ws : List Value), K.In s.heap → us.length = np → ws.length = (ps.drop np).length → BindsTo s fd ⟨us, (ps.drop np).zip ws⟩ (ps.zip (us ++ ws))
/-- f(e, .., k = v, ..) -/
theorem pe_gk {np : Nat} {kws : List Keyword} {tk : TA} (F : FnG X.prog X.w X.K X.mg X.base CX k f fd ps sp) (hgd : X.A.guards = some []) (hr : Room k X.A) (hg : Gl X x) (hm : X.mg x = some (.ref f)) (hk : PySem.W.keepIn X.K (.ref f) = true) (hb : BindsK X.K fd ps np)
    (hx : Passes CX X E) (ha : PA X (e :: es) t) (hkw : PK X kws tk) (hall : (backToKw pos (keywordEach kws X.env)).all (·.1.isSome) = true) (hks : (backToKw pos (keywordEach kws X.env)).filterMap (·.1) = ps.drop np)
    (hdb : (x == ("__debug__" : Str)) = false) (he : starEach (e :: es) X.env = (false, eval e X.env) :: starEach es X.env) (hpl : ((backTo pos (starEach (e :: es) X.env)).any (·.1) || (backToKw pos (keywordEach kws X.env)).any (·.1.isNone)) = false) :
    PE X (.Call (.Name x p) (e :: es) kws pos) (fun σ H Q => t σ H fun vs H1 => tk σ H1 fun zs H2 => vs.length = np ∧ zs.length = (ps.drop np).length ∧ sp (vs ++ zs) H2 Q E) := by
  constructor
  intro pins s σ H Q I h
  refine wpAny_Call_Name_kw (ld_glob I hg hm ?_ hdb)
  refine PySem.W.callWith_KW (h₀ := X.base) I.ok.mod.kin hk hall (thn (ha.run pos pins s σ H _ I h) fun us s1 ⟨vs, H1, I1, r, q⟩ => ?_) hpl he
  refine thn (hkw.run pos pins s1 σ H1 _ I1 q) fun ws s2 ⟨zs, H2, I2, rz, l1, l2, q2⟩ => ⟨I2.kIn, ?_⟩
  rw [hks]
  exact call_gk F hgd hr (hb s2 us ws I2.kIn (r.length.symm.trans l1) (rz.length.symm.trans l2)) hx I2 (r.append rz) q2
end

section
variable {CX : CXT} {P : Program} {w : World} {K : PySem.W.Frag} {mg : Str → Option Value} {base : Heap}
/-- a def of the text, by its body's reading -/
theorem FnG.of_body {k : Nat} {f : Addr} {name qual : Str} {params : Arguments} {body : List Stmt} {scope : Scope} {dV kV doc pm cdv ct oc : Value} {an od : Option Addr} {osl : Array (Option Value)} {N ps : List Str} {sp : Sp}
    (lk : K.lookup f = some ⟨oc, od, .func (PySem.W.fnOf name qual params body scope dV kV doc pm an cdv ct), osl⟩) (hcd : PySem.W.codeIn K cdv qual = true) (S : FnScope N ps scope)
    (hl : ∀ {vs H Q E}, sp vs H Q E → vs.length = ps.length)
    (hbody : ∀ {A : Around} {outer : List Env} {s : Shared} {H : Hp} {vs : List V} {Q : VK} {E : XK}, A.guards = some [] → Room k (A.deeper (envOfC qual scope s.heap.objs.size f cdv)) → sp vs H Q E →
      ∃ t, PSs (cxOf CX P w K mg base N qual scope f cdv A outer s H E) body t ∧ t { nx := fun _ H' => Q .non H', rt := Q } (start N vs) H) :
    FnG P w K mg base CX (k + 1) f (PySem.W.fnOf name qual params body scope dV kV doc pm an cdv ct) ps sp := by
  refine ⟨hl, ?_⟩
  intro A outer s H args us vs Q E hgd hr e0 hb rv hsp
  have inK : K.In s.heap := e0.mod.kin.keeps (fun b o z => (e0.bs b o z).1)
  have noLim : s.heap.NoLimit := e0.mod.nolimit.keeps (fun b o z => (e0.bs b o z).1)
  refine codeAny_call_function hr.depth (inK _ _ lk) rfl S.co S.gen rfl (PySem.W.codeRec_of inK hcd) (hb _ _ _ _ (wpAny_newFunctionEnv_cells S.kind ?_ ?_))
  · rintro ⟨n, v⟩ hy
    exact (S.par n (List.of_mem_zip hy).1).imp id fun q => ⟨q, PySem.W.cellsFrom_some _ _ _ (.inl q)⟩
  · intro env he s1 st
    subst he
    refine ⟨noLim.keeps st.toInCall.keep, codeAny_func ?_⟩
    obtain ⟨t, ht, hq⟩ := hbody (outer := outer) hgd (hr.deeper _) hsp
    have I0 : Inv (cxOf CX P w K mg base N qual scope f cdv A outer s H E) [] (start N vs) H s1 := inv_start S hr.hd e0 (hl hsp) rv st
    refine wpAny_mono (ht.run [] s1 _ H _ I0 hq) ?_ (fun _ _ z => z)
    intro fl s' hs
    cases fl with
    | ret u =>
      obtain ⟨v, _, H', J, r, q⟩ := hs
      exact ⟨v, H', J.os, J.bare, J.base, J.hok, r, q⟩
    | next =>
      obtain ⟨_, H', J, q⟩ := hs
      exact ⟨.non, H', J.os, J.bare, J.base, J.hok, rfl, q⟩
    | brk => exact hs.elim fun _ z => z.elim fun _ z => z.2.elim
    | cont => exact hs.elim fun _ z => z.elim fun _ z => z.2.elim
end
end VS

set_option maxHeartbeats 400000
/-! V5: what a def promises by its data; readings; the checks that a text is a code. -/
namespace VS
open PySem PySem.Spec PyProof.Rows L2

/-! ### a def's promise by data -/
def OArg (ms : List Md) (vs : List V) (b : Addr) : Prop := ∃ j : Nat, ms[j]? = some Md.O ∧ vs[j]? = some (V.ref b)
def ArgOk (K : PySem.W.Frag) (H : Hp) (F : AP) (m : Md) (v : V) (d : D) : Prop := match m with
  | .S => RD K H F v d
  | .B => RDT K H F v d
  | .O => RDT K H F v d ∧ ∃ a, v = .ref a ∧ F a
  | .L => False
def ArgsOk (K : PySem.W.Frag) (H : Hp) (F : AP) : List Md → List V → List D → Prop
  | [], [], [] => True
  | m :: ms, v :: vs, d :: ds => ArgOk K H F m v d ∧ ArgsOk K H F ms vs ds
  | _, _, _ => False
def OutsOk (K : PySem.W.Frag) (H : Hp) (F : AP) : List Md → List V → List D → Prop
  | [], [], os => os = []
  | .O :: ms, v :: vs, d :: os => RDT K H F v d ∧ OutsOk K H F ms vs os
  | .O :: _, _ :: _, [] => False
  | _ :: ms, _ :: vs, os => OutsOk K H F ms vs os
  | _, _, _ => False
/-- the lists to be changed are different ones, and no borrowed thing is one of them -/
structure Dist (ms : List Md) (vs : List V) (ds : List D) : Prop where
  oo : ∀ (i j : Nat) (a : Addr), ms[i]? = some Md.O → ms[j]? = some Md.O → vs[i]? = some (V.ref a) → vs[j]? = some (V.ref a) → i = j
  bo : ∀ (i j : Nat) (a : Addr) (d : D), ms[i]? = some Md.B → ds[i]? = some d → mutD d = true → ms[j]? = some Md.O → vs[i]? = some (V.ref a) → vs[j]? = some (V.ref a) → False
structure CallOk (fr : Bool) (K : PySem.W.Frag) (H H1 : Hp) (F : AP) (ms : List Md) (vs : List V) (os : List D) (v : V) (r : D) : Prop where
  keep : ∀ b o, ¬ OArg ms vs b → H b = some o → H1 b = some o
  there : ∀ b, OArg ms vs b → H1 b ≠ none
  outs : OutsOk K H1 F ms vs os
  rd : RD K H1 F v r
  new : fr = true → isMut r = true → ∃ p, v = .ref p ∧ H p = none ∧ H1 p ≠ none ∧ RDT K H1 (wA p F) v r ∧ OutsOk K H1 (wA p F) ms vs os
  imm : fr = true → isImm r = false
def spV (K : PySem.W.Frag) (df : Df) (m : List D → Option (D × List D)) : Sp := fun vs H Q _ => vs.length = df.ms.length ∧
  ∃ F ds r os, Taken H F ∧ ArgsOk K H F df.ms vs ds ∧ Dist df.ms vs ds ∧ m ds = some (r, os) ∧ ∀ v H1, CallOk df.fr K H H1 F df.ms vs os v r → Q v H1

/-! ### readings -/
/-- is the value new (if it can be changed at all)? -/
def frC (T : Tb) : C → Bool
  | .p1 p _ => fr1 p
  | .p2 p _ _ => fr2 p
  | .slc _ _ _ => true
  | .lst _ => true
  | .call f _ => match T f with | some df => df.fr | none => false
  | .comp _ _ _ _ _ => true
  | .int _ => true
  | .bl _ => true
  | .non => true
  | .str _ => true
  | .gint _ _ => true
  | _ => false
def tE (T : Tb) (Φ : Ph) (G : Gh) (M : List Md) (c : C) : TE := fun σ H Q => ∃ ε d ε', Rel G M ε σ H ∧ denE T Φ c ε = some (d, ε') ∧
  ∀ v H1, Rel G M ε' σ H1 → Ext M σ H H1 → ROk (frC T c) G M ε' σ H H1 v d → Q v H1
def BOk (c : C) (G : Gh) (M : List Md) (σ : L2.St) (H : Hp) (v : V) (d : D) : Prop := match c with
  | .var i => σ[i]? = some (some v)
  | _ => RD G.K H (Forb G M σ) v d
def tB (T : Tb) (Φ : Ph) (G : Gh) (M : List Md) (c : C) : TE := fun σ H Q => ∃ ε d ε', Rel G M ε σ H ∧ denE T Φ c ε = some (d, ε') ∧
  ∀ v H1, Rel G M ε' σ H1 → Ext M σ H H1 → RDT G.K H1 (Forb G M σ) v d → BOk c G M σ H1 v d → Q v H1
def tT (T : Tb) (Φ : Ph) (G : Gh) (M : List Md) (c : C) : TT := fun σ H Q => ∃ ε b ε', Rel G M ε σ H ∧ denT T Φ c ε = some (b, ε') ∧
  ∀ H1, Rel G M ε' σ H1 → Ext M σ H H1 → Q b H1
def tEs (T : Tb) (Φ : Ph) (G : Gh) (M : List Md) (cs : Cs) : TA := fun σ H Q => ∃ ε ds ε', Rel G M ε σ H ∧ denEs T Φ cs ε = some (ds, ε') ∧
  ∀ vs H1, Rel G M ε' σ H1 → Ext M σ H H1 → RDs G.K H1 (Forb G M σ) vs ds → Q vs H1
/-- an argument beside its data, all arguments being there -/
def BOks (G : Gh) (M : List Md) (σ : L2.St) (H : Hp) : Cs → List V → List D → Prop
  | .nil, [], [] => True
  | .cons c r, v :: vs, d :: ds => BOk c G M σ H v d ∧ BOks G M σ H r vs ds
  | _, _, _ => False
def tAs (T : Tb) (Φ : Ph) (G : Gh) (M : List Md) (cs : Cs) : TA := fun σ H Q => ∃ ε ds ε', Rel G M ε σ H ∧ denEs T Φ cs ε = some (ds, ε') ∧
  ∀ vs H1, Rel G M ε' σ H1 → Ext M σ H H1 → BOks G M σ H1 cs vs ds → Q vs H1
def tOp1 (T : Tb) (Φ : Ph) (G : Gh) (M : List Md) (c : CO) : TO := fun σ H Q => ∃ ε d ε', Rel G M ε σ H ∧ denO T Φ c ε = some (d, ε') ∧
  ∀ H1, Rel G M ε' σ H1 → Ext M σ H H1 → Q d H1

section
variable {X : Cx} {e : Expr}
theorem _root_.L2.PE.imp {t t' : TE} (h : PE X e t) (i : ∀ σ H Q, t' σ H Q → t σ H Q) : PE X e t' := ⟨fun pins s σ H Q I q => h.run pins s σ H Q I (i σ H Q q)⟩
theorem _root_.L2.PT.imp {t t' : TT} (h : PT X e t) (i : ∀ σ H Q, t' σ H Q → t σ H Q) : PT X e t' := ⟨fun pins s σ H Q I q => h.run pins s σ H Q I (i σ H Q q)⟩
theorem _root_.L2.PA.imp {es : List Expr} {t t' : TA} (h : PA X es t) (i : ∀ σ H Q, t' σ H Q → t σ H Q) : PA X es t' := ⟨fun pos pins s σ H Q I q => h.run pos pins s σ H Q I (i σ H Q q)⟩
theorem _root_.L2.PO.imp {o : Option Expr} {t t' : TO} (h : PO X o t) (i : ∀ σ H Q, t' σ H Q → t σ H Q) : PO X o t' := ⟨fun pins s σ H Q I q => h.run pins s σ H Q I (i σ H Q q)⟩
end

section
variable {G : Gh} {M : List Md} {ε ε1 ε2 : Ev} {σ : L2.St} {H H1 H2 H3 : Hp} {c : C} {v : V} {d : D}
theorem Rel.taken (R : Rel G M ε σ H) : Taken H (Forb G M σ) := fun a f => R.alloc a f
theorem Ext.none (R : Rel G M ε σ H1) (x : Ext M σ H H1) {p : Addr} (hp : H1 p = none) : H p = none := by
  cases q : H p with
  | none => rfl
  | some o =>
    by_cases hh : ∃ i, md M i = .O ∧ At σ i p
    · obtain ⟨i, hm, ha⟩ := hh
      exact absurd hp (R.alloc p (Forb.own (.inl hm) ha))
    · have := x p o q fun i hm ha => hh ⟨i, hm, ha⟩
      rw [hp] at this; cases this
theorem BOk.ext (x : Ext M σ H H1) (h : BOk c G M σ H v d) : BOk c G M σ H1 v d := by
  unfold BOk at h ⊢
  split at h <;> first | exact h | exact RD.ext x h
/-- a name is read late -/
theorem BOk.late (R : Rel G M ε2 σ H2) (h : BOk c G M σ H2 v d) {d' : D} (e : lateC c d ε2 = some d') : RDT G.K H2 (Forb G M σ) v d' := by
  unfold BOk at h
  unfold lateC at e
  split at h
  · rename_i i
    obtain ⟨w, h1, h2⟩ := R.var (show look ε2 i = some d' from e)
    rw [h] at h1
    have : v = w := Option.some.inj (Option.some.inj h1)
    rw [this]; exact h2
  · rename_i hn
    split at e
    · exact (hn _ rfl).elim
    · obtain rfl := Option.some.inj e
      exact .of h
theorem ROk.op {fr : Bool} (R : Rel G M ε2 σ H2) (x : Ext M σ H H2) (o : OpVal fr G.K H2 H3 (Forb G M σ) v d) : Rel G M ε2 σ H3 ∧ Ext M σ H H3 ∧ ROk fr G M ε2 σ H H3 v d := by
  refine ⟨R.grow o.same, x.trans (.of o.same), o.rd, fun f m => ?_, o.imm⟩
  obtain ⟨p, e, hp, hn, r⟩ := o.new f m
  exact ⟨p, e, x.none R hp, R.plus hp o.same hn, r⟩
end

/-! ### the checks -/
structure Sc where
  N : List Str
  sc : Scope
  fn : Str → Bool
def Sc.vis (S : Sc) (x : Str) : Bool := decide (S.sc.names.lookup x = some .local) || decide (S.sc.names.lookup x = some .cell) || decide (S.sc.names.lookup x = some .free)
def dbg (x : Str) : Bool := (x == ("__debug__" : Str)) || (x == ("__classdict__" : Str)) || decide (x = "__name__")
/-- the name x is the i-th slot -/
def Sc.nm (S : Sc) (i : Nat) (x : Str) : Bool := decide (S.N[i]? = some x) && S.vis x && !dbg x
/-- it may be stored -/
def Sc.st (S : Sc) (i : Nat) (x : Str) : Bool := decide (S.N[i]? = some x) && (decide (S.sc.names.lookup x = some .local) || (decide (S.sc.names.lookup x = some .cell) && S.fn x)) && !dbg x
/-- a global name -/
def Sc.gl (S : Sc) (x : Str) : Bool := decide (S.sc.names.lookup x = some .globalImplicit) && !dbg x
def ns : Expr → Bool
  | .Starred _ _ => false
  | .Slice _ _ _ _ => false
  | .Set _ _ _ => false
  | _ => true
def nm1 : P1 → Option (Bool × String)
  | .len => some (true, "len") | .repr_ => some (true, "repr") | .all_ => some (true, "all") | .any_ => some (true, "any") | .sum_ => some (true, "sum")
  | .abs_ => some (true, "abs") | .maxL => some (true, "max") | .minL => some (true, "min") | .int_ => some (false, "int") | .listOf => some (false, "list") | .sorted_ => some (true, "sorted") | .bool_ => some (false, "bool") | .dictOf => some (false, "dict")
  | _ => none
def synC (S : Sc) (n : String) (e : Expr) : Option Expr := match e with
  | .Call (.Name x _) [a] [] _ => if decide (x = Str.ofString n) && S.gl x && ns a then some a else none
  | _ => none
def syn1 (S : Sc) (p : P1) (e : Expr) : Option Expr := match p with
  | .neg => match e with | .UnaryOp .USub a _ => some a | _ => none
  | .not_ => match e with | .UnaryOp .Not a _ => some a | _ => none
  | .isN => match e with | .Compare a [.Is] [.Constant .none _ _] _ => some a | _ => none
  | .notN => match e with | .Compare a [.IsNot] [.Constant .none _ _] _ => some a | _ => none
  | .isTrue_ => match e with | .Compare a [.Is] [.Constant (.bool true) _ _] _ => some a | _ => none
  | .isFalse_ => match e with | .Compare a [.Is] [.Constant (.bool false) _ _] _ => some a | _ => none
  | .notTrue_ => match e with | .Compare a [.IsNot] [.Constant (.bool true) _ _] _ => some a | _ => none
  | .notFalse_ => match e with | .Compare a [.IsNot] [.Constant (.bool false) _ _] _ => some a | _ => none
  | .isT t => match e with | .Call (.Name x _) [a, .Name y _] [] _ => if decide (x = "isinstance") && S.gl x && decide (y = Str.ofString t.nm) && S.gl y && ns a then some a else none | _ => none
  | p => match nm1 p with
    | some (_, n) => synC S n e
    | none => none
def opOf : P2 → Option Operator
  | .add => some .Add | .sub => some .Sub | .mul => some .Mult | .fdiv => some .FloorDiv | .mod => some .Mod | .pow => some .Pow
  | _ => none
def cmpOf : P2 → Option CmpOp
  | .eq => some .Eq | .ne => some .NotEq | .lt => some .Lt | .le => some .LtE | .gt => some .Gt | .ge => some .GtE
  | _ => none
def cmpIn : P2 → Option CmpOp
  | .inn => some .In | .nin => some .NotIn
  | _ => none
def syn2 (S : Sc) (p : P2) (e : Expr) : Option (Expr × Expr) := match e with
  | .BinOp a op b _ => if opOf p = some op then some (a, b) else none
  | .Compare a [op] [b] _ => if cmpOf p = some op then some (a, b) else if cmpIn p = some op ∧ ns b = true then some (a, b) else none
  | .Subscript a b _ => if decide (p = .idx) && ns b then some (a, b) else none
  | .Call (.Name x _) [a, b] [] _ => if ns a && ns b && S.gl x && ((decide (p = .max2) && decide (x = "max")) || (decide (p = .min2) && decide (x = "min"))) then some (a, b) else none
  | _ => none
def oVars : List Md → Cs → List Nat
  | .O :: ms, .cons (.var i) r => i :: oVars ms r
  | _ :: ms, .cons _ r => oVars ms r
  | _, _ => []
def bVars : List Md → Cs → List Nat
  | .B :: ms, .cons (.var i) r => i :: bVars ms r
  | _ :: ms, .cons _ r => bVars ms r
  | _, _ => []
def lockI : CI → List Nat
  | .seq (.var i) => [i]
  | .zip (.var i) (.var j) => [i, j]
  | .zip (.var i) _ => [i]
  | .zip _ (.var j) => [j]
  | .enum (.var i) => [i]
  | _ => []
def lockM (M : List Md) : List Nat → List Md
  | [] => M
  | i :: r => if md (lockM M r) i = .O then (lockM M r).set i .L else lockM M r
/-- a target's slots -/
def tgV : Tg → List Nat
  | .nm i => [i]
  | .tp a b => tgV a ++ tgV b
  | .tp3 a b c => tgV a ++ tgV b ++ tgV c
  | .tp4 a b c d => tgV a ++ tgV b ++ tgV c ++ tgV d
  | .tp5 a b c d e => tgV a ++ tgV b ++ tgV c ++ tgV d ++ tgV e
def chkTg (S : Sc) (M : List Md) : Tg → Expr → Bool
  | .nm i, .Name x _ => S.st i x && decide (md M i = .S) && decide (i < M.length)
  | .tp a b, .Tuple [x, y] _ _ => chkTg S M a x && chkTg S M b y && ns x && ns y
  | .tp3 a b c, .Tuple [x, y, z] _ _ => chkTg S M a x && chkTg S M b y && chkTg S M c z && ns x && ns y && ns z
  | .tp4 a b c d, .Tuple [x, y, z, w] _ _ => (chkTg S M a x && chkTg S M b y && chkTg S M c z && chkTg S M d w) && (ns x && ns y && ns z && ns w)
  | .tp5 a b c d e, .Tuple [x, y, z, w, v] _ _ => (chkTg S M a x && chkTg S M b y && chkTg S M c z && chkTg S M d w && chkTg S M e v) && (ns x && ns y && ns z && ns w && ns v)
  | _, _ => false
def isTupE : Expr → Bool
  | .Tuple _ _ _ => true
  | _ => false
def scopeIn (S : Sc) (scope : Scope) : Sc := ⟨S.N, relS scope S.sc, fun x => scope.names.lookup x == some .cell⟩
/-- the block's own names with their slots -/
def ownOf (N : List Str) : List Nat → List (Str × Nat)
  | [] => []
  | i :: r => match N[i]? with | some x => (x, i) :: ownOf N r | none => ownOf N r
/-- constants of the module -/
abbrev Gc := List (Str × Int)

def kwV : List Keyword → List Expr
  | [] => []
  | k :: r => k.value :: kwV r
/-- the keywords are the next n names -/
def kwN : List Keyword → List Str → Nat → Bool
  | [], _, 0 => true
  | k :: r, x :: xs, n + 1 => decide (k.arg = some x) && kwN r xs n
  | _, _, _ => false
def isComp : Expr → Bool
  | .ListComp _ _ _ _ => true
  | .SetComp _ _ _ _ => true
  | .DictComp _ _ _ _ _ => true
  | _ => false
/-- an operand: a name of any kind, or a value -/
def bOr (S : Sc) (c : C) (e : Expr) (r : Bool) : Bool := match c, e with
  | .var i, .Name x _ => S.nm i x
  | .var _, _ => false
  | _, _ => r
mutual
def chkE (T : Tb) (Gs : Gc) (S : Sc) (M : List Md) : C → Expr → Bool
  | .var i, .Name x _ => S.nm i x && decide (md M i = .S)
  | .non, .Constant .none _ _ => true
  | .bl b, .Constant (.bool c) _ _ => decide (b = c)
  | .int i, .Constant (.int j) _ _ => decide (i = j)
  | .str x, .Constant (.str y) _ _ => decide (x = y)
  | .gint x i, .Name y _ => decide (x = y) && S.gl x && decide ((x, i) ∈ Gs)
  | .p1 .mkD a, e => chkD T Gs S M a e
  | .p1 p a, e => match syn1 S p e with | some x => bOr S a x (chkE T Gs S M a x) | none => false
  | .p2 p a b, e => match syn2 S p e with | some (x, y) => bOr S a x (chkE T Gs S M a x) && bOr S b y (chkE T Gs S M b y) | none => false
  | .slc a lo hi, .Subscript x (.Slice l h none _) _ => bOr S a x (chkE T Gs S M a x) && chkO T Gs S M lo l && chkO T Gs S M hi h
  | .and_ a b, .BoolOp .And [x, y] _ => chkE T Gs S M a x && chkE T Gs S M b y
  | .and_ a b, .BoolOp .And (x :: y :: z :: r) p => chkE T Gs S M a x && chkE T Gs S M b (.BoolOp .And (y :: z :: r) p)
  | .or_ a b, .BoolOp .Or [x, y] _ => chkE T Gs S M a x && chkE T Gs S M b y
  | .or_ a b, .BoolOp .Or (x :: y :: z :: r) p => chkE T Gs S M a x && chkE T Gs S M b (.BoolOp .Or (y :: z :: r) p)
  | .orv a b, .BoolOp .Or [x, y] _ => chkE T Gs S M a x && chkE T Gs S M b y
  | .ife t a b, .IfExp x y z _ => chkT T Gs S M t x && chkE T Gs S M a y && chkE T Gs S M b z
  | .chain p q a b c, .Compare x [o1, o2] [y, z] _ => decide (cmpOf p = some o1) && decide (cmpOf q = some o2) && bOr S a x (chkE T Gs S M a x) && chkE T Gs S M b y && bOr S c z (chkE T Gs S M c z)
  | .lst as, .List es _ => chkEs T Gs S M as es
  | .tup as, .Tuple es _ _ => chkEs T Gs S M as es
  | .call f as, .Call (.Name x _) es kws _ => match T f with
    | some df => decide (x = df.name) && S.gl x && (chkAs T Gs S M df.ms as (es ++ kwV kws) && decide (es.length = df.np) && kwN kws (df.N.drop df.np) (df.ms.length - df.np)) && decide ((oVars df.ms as).Nodup) && (bVars df.ms as).all (fun i => !(oVars df.ms as).contains i) && !es.isEmpty
    | none => false
  | .comp own g it t e, .ListComp elt [⟨tg, iter, ifs, isa⟩] scope _ =>
    decide (isa = 0) && chkI T Gs S M (isTupE tg) it iter && ns iter && blkC S.N S.sc scope (ownOf S.N own) && own.all (fun i => decide (md M i = .S) && decide (i < S.N.length)) && (tgV g).all (fun i => own.contains i)
      && chkTg (scopeIn S scope) (lockM M (lockI it)) g tg && chkE T Gs (scopeIn S scope) (lockM M (lockI it)) e elt
      && (match ifs with
        | [] => (match t with | .bl true => true | _ => false)
        | [c] => chkT T Gs (scopeIn S scope) (lockM M (lockI it)) t c
        | _ => false)
  | _, _ => false
/-- a dict comprehension: as the list of its pairs -/
def chkD (T : Tb) (Gs : Gc) (S : Sc) (M : List Md) : C → Expr → Bool
  | .comp own g it t (.tup (.cons kc (.cons vc .nil))), .DictComp kx vx [⟨tg, iter, ifs, isa⟩] scope _ =>
    decide (isa = 0) && chkI T Gs S M (isTupE tg) it iter && ns iter && blkC S.N S.sc scope (ownOf S.N own) && own.all (fun i => decide (md M i = .S) && decide (i < S.N.length)) && (tgV g).all (fun i => own.contains i)
      && chkTg (scopeIn S scope) (lockM M (lockI it)) g tg && (chkE T Gs (scopeIn S scope) (lockM M (lockI it)) kc kx && chkE T Gs (scopeIn S scope) (lockM M (lockI it)) vc vx)
      && (match ifs with
        | [] => (match t with | .bl true => true | _ => false)
        | [c] => chkT T Gs (scopeIn S scope) (lockM M (lockI it)) t c
        | _ => false)
  | _, _ => false
def chkEs (T : Tb) (Gs : Gc) (S : Sc) (M : List Md) : Cs → List Expr → Bool
  | .nil, [] => true
  | .cons a r, e :: es => chkE T Gs S M a e && ns e && chkEs T Gs S M r es
  | _, _ => false
def chkAs (T : Tb) (Gs : Gc) (S : Sc) (M : List Md) : List Md → Cs → List Expr → Bool
  | [], .nil, [] => true
  | .S :: ms, .cons a r, e :: es => chkE T Gs S M a e && ns e && chkAs T Gs S M ms r es
  | .B :: ms, .cons a r, e :: es => bOr S a e (chkE T Gs S M a e) && ns e && chkAs T Gs S M ms r es
  | .O :: ms, .cons (.var i) r, .Name x p :: es => S.nm i x && decide (md M i = .O) && chkAs T Gs S M ms r es
  | _, _, _ => false
def chkO (T : Tb) (Gs : Gc) (S : Sc) (M : List Md) : CO → Option Expr → Bool
  | .none, none => true
  | .some a, some e => chkE T Gs S M a e
  | _, _ => false
def chkI (T : Tb) (Gs : Gc) (S : Sc) (M : List Md) (tup : Bool) : CI → Expr → Bool
  | .seq a, e => bOr S a e (chkE T Gs S M a e)
  | .rng1 a, .Call (.Name x _) [y] [] _ => decide (x = "range") && S.gl x && chkE T Gs S M a y && ns y
  | .rng2 a b, .Call (.Name x _) [y, z] [] _ => decide (x = "range") && S.gl x && chkE T Gs S M a y && chkE T Gs S M b z && ns y && ns z
  | .zip a b, .Call (.Name x _) [y, z] [] _ => tup && decide (x = "zip") && S.gl x && bOr S a y (chkE T Gs S M a y) && bOr S b z (chkE T Gs S M b z) && ns y && ns z
  | .enum a, .Call (.Name x _) [y] [] _ => tup && decide (x = "enumerate") && S.gl x && bOr S a y (chkE T Gs S M a y) && ns y
  | _, _ => false
def chkT (T : Tb) (Gs : Gc) (S : Sc) (M : List Md) : C → Expr → Bool
  | .and_ a b, .BoolOp .And [x, y] _ => chkT T Gs S M a x && chkT T Gs S M b y
  | .and_ a b, .BoolOp .And (x :: y :: z :: r) p => chkT T Gs S M a x && chkT T Gs S M b (.BoolOp .And (y :: z :: r) p)
  | .or_ a b, .BoolOp .Or [x, y] _ => chkT T Gs S M a x && chkT T Gs S M b y
  | .or_ a b, .BoolOp .Or (x :: y :: z :: r) p => chkT T Gs S M a x && chkT T Gs S M b (.BoolOp .Or (y :: z :: r) p)
  | .p1 .not_ a, .UnaryOp .Not x _ => chkT T Gs S M a x
  | .p1 .not_ _, _ => false
  | .p1 p a, e => match syn1 S p e with | some x => bOr S a x (chkE T Gs S M a x) | none => false
  | .p2 p a b, e => match syn2 S p e with | some (x, y) => bOr S a x (chkE T Gs S M a x) && bOr S b y (chkE T Gs S M b y) | none => false
  | .bl b, .Constant (.bool c) _ _ => decide (b = c)
  | .var i, .Name x _ => S.nm i x
  | .chain p q a b c, .Compare x [o1, o2] [y, z] _ => decide (cmpOf p = some o1) && decide (cmpOf q = some o2) && bOr S a x (chkE T Gs S M a x) && chkE T Gs S M b y && bOr S c z (chkE T Gs S M c z)
  | .call f as, .Call (.Name x _) es kws _ => match T f with
    | some df => decide (x = df.name) && S.gl x && (chkAs T Gs S M df.ms as (es ++ kwV kws) && decide (es.length = df.np) && kwN kws (df.N.drop df.np) (df.ms.length - df.np)) && decide ((oVars df.ms as).Nodup) && (bVars df.ms as).all (fun i => !(oVars df.ms as).contains i) && !es.isEmpty
    | none => false
  | _, _ => false
end
def chkB (T : Tb) (Gs : Gc) (S : Sc) (M : List Md) (c : C) (e : Expr) : Bool := bOr S c e (chkE T Gs S M c e)
/-! ### statements -/
def geM : List Md → List Md → Bool
  | [], [] => true
  | a :: as, b :: bs => (decide (a = b) || (decide (a = .O) && decide (b = .S))) && geM as bs
  | _, _ => false
def meetM : List Md → List Md → Option (List Md)
  | [], [] => some []
  | a :: as, b :: bs => match meetM as bs with
    | some r => if a = b then some (a :: r) else if (a = .O ∧ b = .S) ∨ (a = .S ∧ b = .O) then some (.S :: r) else none
    | none => none
  | _, _ => none
def joinM : Option (List Md) → Option (List Md) → Option (Option (List Md))
  | none, b => some b
  | a, none => some a
  | some a, some b => (meetM a b).map some
/-- the value is stored behind its making, or the comprehension goes straight into the name -/
def setOk (S : Sc) (x : Str) (py : Pos) : Expr → Bool
  | .ListComp _ _ _ _ => true
  | .SetComp _ _ _ _ => false
  | .DictComp _ _ _ _ _ => true
  | _ => true
/-- a pair of names takes a written pair -/
def parOk : Expr → Expr → Bool
  | .Tuple [.Name _ _, .Name _ _] _ _, .Tuple [u, w] _ _ => ns u && ns w && !(!([u, w].all (foldedForSure 8)) && [u, w].all (constantsAlone 8))
  | _, _ => false
mutual
def chkS (T : Tb) (Gs : Gc) (S : Sc) (fr : Bool) (Pn : List Nat) (Ml : Option (List Md)) : VS.S → List Md → Stmt → Option (Option (List Md))
  | .set o i e, M, .Assign [.Name x py] v _ => if S.st i x && !Pn.contains i && decide (i < M.length) && chkE T Gs S M e v && setOk S x py v && ns v && (!o || frC T e) then some (some (M.set i (if o then .O else .S))) else none
  | .tgt g e, M, .Assign [tg] v _ => if isTupE tg && (!isTupE v || parOk tg v) && !isComp v && chkTg S M g tg && chkE T Gs S M e v && ns v then some (some M) else none
  | .sub i ix e, M, .Assign [.Subscript (.Name x _) y _] v _ => if S.nm i x && decide (md M i = .O) && chkE T Gs S M ix y && ns y && chkE T Gs S M e v && !isComp v && ns v then some (some M) else none
  | .dput i ix e, M, .Assign [.Subscript (.Name x _) y _] v _ => if S.nm i x && decide (md M i = .O) && chkE T Gs S M ix y && ns y && chkE T Gs S M e v && !isComp v && ns v then some (some M) else none
  | .app i e, M, .Expr (.Call (.Attribute (.Name x _) m ap) [v] [] cp) _ => if S.nm i x && decide (m = "append") && (ap.endLine == cp.line) && decide (md M i = .O) && chkE T Gs S M e v && ns v then some (some M) else none
  | .ext i e, M, .Expr (.Call (.Attribute (.Name x _) m ap) [v] [] cp) _ => if S.nm i x && decide (m = "extend") && (ap.endLine == cp.line) && decide (md M i = .O) && chkB T Gs S M e v && ns v then some (some M) else none
  | .clr i, M, .Expr (.Call (.Attribute (.Name x _) m ap) [] [] cp) _ => if S.nm i x && decide (m = "clear") && (ap.endLine == cp.line) && decide (md M i = .O) then some (some M) else none
  | .appT a e, M, .Expr (.Call (.Attribute o m ap) [v] [] cp) _ => if (match o with | .Call (.Name _ _) (_ :: _) _ _ => true | _ => false) && decide (m = "append") && (ap.endLine == cp.line) && frC T a && chkE T Gs S M a o && chkE T Gs S M e v && ns v then some (some M) else none
  | .aug p i e, M, .AugAssign (.Name x _) op v _ => if S.st i x && decide (md M i = .S) && decide (opOf p = some op) && chkE T Gs S M e v && ns v then some (some M) else none
  | .ex e, M, .Expr v _ => if chkE T Gs S M e v && !isComp v && ns v then some (some M) else none
  | .ret e, M, .Return (some v) _ => if chkE T Gs S M e v && (!fr || frC T e) then some none else none
  | .retO i, M, .Return (some (.Name x _)) _ => if S.nm i x && decide (md M i = .O) && !Pn.contains i then some none else none
  | .retN, _, .Return none _ => some none
  | .ifs t a b, M, .If c x y _ => if chkT T Gs S M t c then match chkSs T Gs S fr Pn Ml a M x, chkSs T Gs S fr Pn Ml b M y with
      | some r, some q => joinM r q
      | _, _ => none
    else none
  | .fors _ g it b, M, .For tg iter body [] _ =>
    if chkI T Gs S M (isTupE tg) it iter && ns iter && chkTg S (lockM M (lockI it)) g tg then
      match chkSs T Gs S fr (lockI it ++ Pn) (some (lockM M (lockI it))) b (lockM M (lockI it)) body with
      | some none => some (some M)
      | some (some M2) => if geM M2 (lockM M (lockI it)) then some (some M) else none
      | none => none
    else none
  | .whil _ _ t b, M, .While c body [] _ => if chkT T Gs S M t c then match chkSs T Gs S fr Pn (some M) b M body with
      | some none => some (some M)
      | some (some M2) => if geM M2 M then some (some M) else none
      | none => none
    else none
  | .brk, M, .Break _ => match Ml with | some M2 => if geM M M2 then some none else none | none => none
  | .cnt, M, .Continue _ => match Ml with | some M2 => if geM M M2 then some none else none | none => none
  | .pas, M, .Pass _ => some (some M)
  | .dead, _, _ => some none
  | .dem i s, M, st => if decide (md M i = .O) && !Pn.contains i && decide (i < M.length) then chkS T Gs S fr Pn Ml s (M.set i .S) st else none
  | .kil _ s, M, st => chkS T Gs S fr Pn Ml s M st
  | _, _, _ => none
def chkSs (T : Tb) (Gs : Gc) (S : Sc) (fr : Bool) (Pn : List Nat) (Ml : Option (List Md)) : Ss → List Md → List Stmt → Option (Option (List Md))
  | .nil, M, [] => some (some M)
  | .cons s .nil, M, [st] => chkS T Gs S fr Pn Ml s M st
  | .cons s r, M, st :: sts => match chkS T Gs S fr Pn Ml s M st with
    | some (some M2) => chkSs T Gs S fr Pn Ml r M2 sts
    | some none => some none
    | none => none
  | _, _, _ => none
end
end VS

set_option maxHeartbeats 400000
/-! V6: an expression that is a code reads as the code's worth. -/
namespace VS
open PySem PySem.Spec PyProof.Rows L2

def bltNames : List Str := ["len", "repr", "all", "any", "sum", "abs", "max", "min", "int", "list", "range", "zip", "enumerate", "isinstance", "bool", "str", "tuple", "dict", "sorted"]
structure XOk (T : Tb) (Φ : Ph) (Gs : Gc) (k : Nat) (S : Sc) (X : Cx) : Prop where
  N : X.N = S.N
  nd : S.N.Nodup
  sc : X.env.scope = S.sc
  fn : X.fn = S.fn
  calm : X.calm = true
  xe : X.xe = fun _ _ => False
  gd : X.A.guards = some []
  room : Room k X.A
  bl : ∀ x ∈ bltNames, X.mg x = none
  gs : ∀ p ∈ Gs, ∃ t, X.mg p.1 = some (.int p.2 t)
  fns : ∀ (f : Nat) (df : Df), T f = some df → ∃ a fd ps, X.mg df.name = some (.ref a) ∧ PySem.W.keepIn X.K (.ref a) = true ∧ BindsK X.K fd ps df.np ∧ (ps.length = df.ms.length ∧ ps = df.N.take df.ms.length) ∧ FnG X.prog X.w X.K X.mg X.base CX0 k a fd ps (spV X.K df (Φ f))

theorem star_ns {e : Expr} {es : List Expr} {env : Env} (h : ns e = true) : starEach (e :: es) env = (false, eval e env) :: starEach es env := by
  cases e <;> first | rfl | (simp [ns] at h)

section
variable {T : Tb} {Φ : Ph} {Gs : Gc} {k : Nat} {S : Sc} {X : Cx} {G : Gh} {M : List Md} {c : C} {e a : Expr}
theorem tB.mono {σ : L2.St} {H : Hp} {Q Q' : VK} (h : tB T Φ G M c σ H Q) (q : ∀ v H1, Q v H1 → Q' v H1) : tB T Φ G M c σ H Q' := by
  obtain ⟨ε, d, ε', R, hd, f⟩ := h
  exact ⟨ε, d, ε', R, hd, fun v H1 a b c d => q _ _ (f v H1 a b c d)⟩
theorem tE.mono {σ : L2.St} {H : Hp} {Q Q' : VK} (h : tE T Φ G M c σ H Q) (q : ∀ v H1, Q v H1 → Q' v H1) : tE T Φ G M c σ H Q' := by
  obtain ⟨ε, d, ε', R, hd, f⟩ := h
  exact ⟨ε, d, ε', R, hd, fun v H1 a b c => q _ _ (f v H1 a b c)⟩
theorem XOk.gl (Xo : XOk T Φ Gs k S X) {x : Str} (h : S.gl x = true) : Gl X x ∧ (x == ("__debug__" : Str)) = false ∧ x ≠ "__name__" := by
  simp only [Sc.gl, dbg, Bool.and_eq_true, Bool.not_eq_true', Bool.or_eq_false_iff, decide_eq_true_eq, decide_eq_false_iff_not] at h
  obtain ⟨h1, ⟨h2, _⟩, h3⟩ := h
  refine ⟨?_, h2, h3⟩
  show X.env.scope.names.lookup x = _
  rw [Xo.sc]; exact h1
theorem XOk.nm (Xo : XOk T Φ Gs k S X) {i : Nat} {x : Str} (h : S.nm i x = true) : X.N[i]? = some x ∧ Vis X.env.scope x ∧ (x == ("__debug__" : Str)) = false ∧ (x == ("__classdict__" : Str)) = false := by
  simp only [Sc.nm, Sc.vis, dbg, Bool.and_eq_true, Bool.not_eq_true', Bool.or_eq_false_iff, Bool.or_eq_true, decide_eq_true_eq, decide_eq_false_iff_not] at h
  obtain ⟨⟨h1, h2⟩, ⟨h3, h4⟩, _⟩ := h
  refine ⟨by rw [Xo.N]; exact h1, ?_, h3, h4⟩
  unfold Vis
  rw [Xo.sc]
  rcases h2 with (h2 | h2) | h2
  · exact .inl h2
  · exact .inr (.inl h2)
  · exact .inr (.inr h2)
theorem XOk.hu (Xo : XOk T Φ Gs k S X) : X.A.units + 100 < cLine := by
  have := Xo.room.un
  omega
/-- a name in any way -/
theorem sb_var (Xo : XOk T Φ Gs k S X) {i : Nat} {x : Str} {pos : Pos} (h : S.nm i x = true) : PE X (.Name x pos) (tB T Φ G M (.var i)) := by
  obtain ⟨h1, h2, h3, h4⟩ := Xo.nm h
  refine (pe_var h1 h2 h3 h4).imp fun σ H Q q => ?_
  obtain ⟨ε, d, ε', R, hd, f⟩ := q
  obtain ⟨d', h5, h6⟩ := Option.map_eq_some_iff.mp (show (look ε i).map (fun d => (d, ε)) = some (d, ε') from hd)
  injection h6 with e1 e2
  subst e1 e2
  obtain ⟨v, h7, h8⟩ := R.var h5
  exact ⟨v, h7, f v H R .refl h8 h7⟩
/-- what may be shared, as an operand -/
theorem sb_of (hc : ∀ i, c ≠ .var i) (h : PE X e (tE T Φ G M c)) : PE X e (tB T Φ G M c) := by
  refine h.imp fun σ H Q q => ?_
  obtain ⟨ε, d, ε', R, hd, f⟩ := q
  refine ⟨ε, d, ε', R, hd, fun v H1 R1 x1 o => f v H1 R1 x1 (.of o.rd) ?_⟩
  unfold BOk
  split
  · exact absurd rfl (hc _)
  · exact o.rd
theorem sb_ok (Xo : XOk T Φ Gs k S X) {r : Bool} (h : bOr S c e r = true) (hc : r = true → PE X e (tE T Φ G M c)) : PE X e (tB T Φ G M c) := by
  unfold bOr at h
  split at h
  · exact sb_var Xo h
  · cases h
  · rename_i n1 n2
    refine sb_of (fun i z => ?_) (hc h)
    subst z
    first | exact n2 i rfl | exact n1 i rfl
/-- a value out of an operation -/
theorem fin_op {fr : Bool} {ε2 : Ev} {σ : L2.St} {H H2 : Hp} {r : D} {Q : VK} (R : Rel G M ε2 σ H2) (x : Ext M σ H H2) (q : ∀ v H1, Rel G M ε2 σ H1 → Ext M σ H H1 → ROk fr G M ε2 σ H H1 v r → Q v H1) :
    ∀ v H1, OpVal fr G.K H2 H1 (Forb G M σ) v r → Q v H1 := fun v H1 o => by
  obtain ⟨a, b, c⟩ := ROk.op R x o
  exact q v H1 a b c
theorem p1_core (hK : G.K = X.K) {p : P1} {σ : L2.St} {H : Hp} {Q : VK} (h : tE T Φ G M (.p1 p c) σ H Q) : tB T Φ G M c σ H (fun v H1 => r1 p X.K v H1 Q) := by
  obtain ⟨ε, r, ε', R, hd, f⟩ := h
  obtain ⟨⟨d, ε1⟩, h1, h2⟩ := Option.bind_eq_some_iff.mp (show (denE T Φ c ε).bind (fun (d, ε1) => (op1 p d).map fun r => (r, ε1)) = some (r, ε') from hd)
  obtain ⟨r', h3, h4⟩ := Option.map_eq_some_iff.mp h2
  injection h4 with e1 e2
  subst e1 e2
  refine ⟨ε, d, ε1, R, h1, fun v H1 R1 x1 o b => ?_⟩
  rw [← hK]
  exact ⟨_, d, _, R1.taken, o, h3, fin_op R1 x1 f⟩
theorem cb1 (Xo : XOk T Φ Gs k S X) {p : P1} {x : Str} {pp pos : Pos} {id : String} (hK : G.K = X.K) (hc : CallR X (.builtin id) (rc1 p X.K)) (hg : S.gl x = true) (hn : ns a = true) (hx : x ∈ bltNames) (hv : bootBuiltins x = some (.builtin id))
    (ha : PE X a (tB T Φ G M c)) : PE X (.Call (.Name x pp) [a] [] pos) (tE T Φ G M (.p1 p c)) := by
  obtain ⟨g1, g2, g3⟩ := Xo.gl hg
  refine (pe_callB hc g1 (Xo.bl x hx) hv (pa_cons ha pa_nil (star_ns hn)) g3 g2 (star_ns hn) rfl).imp fun σ H Q q => ?_
  exact (p1_core hK q).mono fun v H1 r => ⟨v, rfl, r⟩
theorem ct1 (Xo : XOk T Φ Gs k S X) {p : P1} {x : Str} {pp pos : Pos} {id : String} (hK : G.K = X.K) (hc : CallR X (.type id) (rc1 p X.K)) (hg : S.gl x = true) (hn : ns a = true) (hx : x ∈ bltNames) (hv : bootBuiltins x = some (.type id))
    (ha : PE X a (tB T Φ G M c)) : PE X (.Call (.Name x pp) [a] [] pos) (tE T Φ G M (.p1 p c)) := by
  obtain ⟨g1, g2, g3⟩ := Xo.gl hg
  refine (pe_callTy hc g1 (Xo.bl x hx) hv (pa_cons ha pa_nil (star_ns hn)) g3 g2 (star_ns hn) rfl).imp fun σ H Q q => ?_
  exact (p1_core hK q).mono fun v H1 r => ⟨v, rfl, r⟩
/-- the type of a value -/
theorem RDT.ty {K : PySem.W.Frag} {H : Hp} {F : AP} {v : V} {d : D} (h : RDT K H F v d) (t : Ty) {b : Bool} (e : isTy d t = some b) :
    ∃ u, TyX K H v u ∧ PySem.W.kitOne K u (.type t.nm) = some b := by
  cases d with
  | non => have := h.non; subst this; cases t <;> cases e <;> exact ⟨_, .base .non, by first | exact kit_ty (r := true) (by decide +kernel) | exact kit_ty (r := false) (by decide +kernel)⟩
  | bl b => have := h.bl; subst this; cases t <;> cases e <;> exact ⟨_, .base (.bl _), by first | exact kit_ty (r := true) (by decide +kernel) | exact kit_ty (r := false) (by decide +kernel)⟩
  | int b => have := h.int; subst this; cases t <;> cases e <;> exact ⟨_, .base (.int _), by first | exact kit_ty (r := true) (by decide +kernel) | exact kit_ty (r := false) (by decide +kernel)⟩
  | str b => have := h.str; subst this; cases t <;> cases e <;> exact ⟨_, .base (.str _), by first | exact kit_ty (r := true) (by decide +kernel) | exact kit_ty (r := false) (by decide +kernel)⟩
  | lst ds => obtain ⟨a, xs, rfl, e1, _⟩ := h.list; cases t <;> cases e <;> exact ⟨_, .base (.lst e1), by first | exact kit_ty (r := true) (by decide +kernel) | exact kit_ty (r := false) (by decide +kernel)⟩
  | tup ds => obtain ⟨a, xs, rfl, e1, _⟩ := h.tuple; cases t <;> cases e <;> exact ⟨_, .base (.tup e1), by first | exact kit_ty (r := true) (by decide +kernel) | exact kit_ty (r := false) (by decide +kernel)⟩
  | dct ds => obtain ⟨a, xs, rfl, e1, _⟩ := h.dict; cases t <;> cases e <;> exact ⟨_, .base (.dK e1), by first | exact kit_ty (r := true) (by decide +kernel) | exact kit_ty (r := false) (by decide +kernel)⟩
  | set ds => obtain ⟨a, xs, rfl, e1, _⟩ := h.sets; cases t <;> cases e <;> exact ⟨_, .set e1, by first | exact kit_ty (r := true) (by decide +kernel) | exact kit_ty (r := false) (by decide +kernel)⟩
  | scr ds =>
    obtain ⟨a, rfl, e1⟩ := h.script
    rcases e1 with (e1 | ⟨o, e1⟩) | ⟨o, its, n, e1, e2, _⟩
    · cases t <;> cases e <;> exact ⟨_, .base (.lst e1), by first | exact kit_ty (r := true) (by decide +kernel) | exact kit_ty (r := false) (by decide +kernel)⟩
    · cases t <;> cases e <;> exact ⟨_, .base (.frz e1), by first | exact kit_ty (r := true) (by decide +kernel) | exact kit_ty (r := false) (by decide +kernel)⟩
    · cases t <;> cases e <;> exact ⟨_, .kList e1 e2, by first | exact kit_ty (r := true) (by decide +kernel) | exact kit_ty (r := false) (by decide +kernel)⟩
theorem p1_ok (Xo : XOk T Φ Gs k S X) (hK : G.K = X.K) {p : P1} (h : syn1 S p e = some a) (ha : PE X a (tB T Φ G M c)) : PE X e (tE T Φ G M (.p1 p c)) := by
  have call : ∀ {n : String} {bt : Bool}, nm1 p = some (bt, n) → ∃ x pp pos, e = .Call (.Name x pp) [a] [] pos ∧ x = Str.ofString n ∧ S.gl x = true ∧ ns a = true := by
    intro n bt hn
    have key : syn1 S p e = synC S n e := by
      cases p <;> simp only [nm1] at hn <;> first | (cases hn; done) | (injection hn with z; injection z with z1 z2; subst z2; rfl)
    rw [key] at h
    unfold synC at h
    split at h
    · split at h
      · rename_i q
        simp only [Bool.and_eq_true, decide_eq_true_eq] at q
        cases h
        exact ⟨_, _, _, rfl, q.1.1, q.1.2, q.2⟩
      · cases h
    · cases h
  cases p with
  | len => obtain ⟨x, pp, pos, rfl, rfl, g, n⟩ := call rfl; exact cb1 Xo hK vo_len g n (by decide +kernel) (by decide +kernel) ha
  | repr_ => obtain ⟨x, pp, pos, rfl, rfl, g, n⟩ := call rfl; exact cb1 Xo hK (vo_repr Xo.gd Xo.hu) g n (by decide +kernel) (by decide +kernel) ha
  | all_ => obtain ⟨x, pp, pos, rfl, rfl, g, n⟩ := call rfl; exact cb1 Xo hK (vo_all Xo.calm) g n (by decide +kernel) (by decide +kernel) ha
  | any_ => obtain ⟨x, pp, pos, rfl, rfl, g, n⟩ := call rfl; exact cb1 Xo hK (vo_any Xo.calm) g n (by decide +kernel) (by decide +kernel) ha
  | sum_ => obtain ⟨x, pp, pos, rfl, rfl, g, n⟩ := call rfl; exact cb1 Xo hK (vo_sum Xo.calm) g n (by decide +kernel) (by decide +kernel) ha
  | abs_ => obtain ⟨x, pp, pos, rfl, rfl, g, n⟩ := call rfl; exact cb1 Xo hK vo_abs g n (by decide +kernel) (by decide +kernel) ha
  | maxL => obtain ⟨x, pp, pos, rfl, rfl, g, n⟩ := call rfl; exact cb1 Xo hK (vo_maxL Xo.calm) g n (by decide +kernel) (by decide +kernel) ha
  | minL => obtain ⟨x, pp, pos, rfl, rfl, g, n⟩ := call rfl; exact cb1 Xo hK (vo_minL Xo.calm) g n (by decide +kernel) (by decide +kernel) ha
  | int_ => obtain ⟨x, pp, pos, rfl, rfl, g, n⟩ := call rfl; exact ct1 Xo hK vo_int g n (by decide +kernel) (by decide +kernel) ha
  | bool_ => obtain ⟨x, pp, pos, rfl, rfl, g, n⟩ := call rfl; exact ct1 Xo hK vo_bool g n (by decide +kernel) (by decide +kernel) ha
  | dictOf => obtain ⟨x, pp, pos, rfl, rfl, g, n⟩ := call rfl; exact ct1 Xo hK vo_dictOf g n (by decide +kernel) (by decide +kernel) ha
  | mkD => simp [syn1, nm1] at h
  | listOf => obtain ⟨x, pp, pos, rfl, rfl, g, n⟩ := call rfl; exact ct1 Xo hK vo_listOf g n (by decide +kernel) (by decide +kernel) ha
  | neg =>
    simp only [syn1] at h
    split at h
    · cases h
      exact (pe_un vo_neg ha).imp fun σ H Q q => p1_core hK q
    · cases h
  | not_ =>
    simp only [syn1] at h
    split at h
    · cases h
      refine (pe_not ha).imp fun σ H Q q => (p1_core hK q).mono fun v H1 r => ?_
      obtain ⟨F, d, r', hF, hx, ho, q⟩ := r
      cases d <;> first | (simp only [op1] at ho; cases ho; done) | skip
      obtain rfl := Option.some.inj ho
      exact ⟨_, hx.bl, q _ _ .bl⟩
    · cases h
  | isN =>
    simp only [syn1] at h
    split at h
    · cases h
      refine (pe_cmpR op_isN ha pe_non (nomark _)).imp fun σ H Q q => (p1_core hK q).mono fun v H1 r => ⟨rfl, ?_⟩
      obtain ⟨F, d, r', hF, hx, ho, q⟩ := r
      obtain rfl := Option.some.inj ho
      have : decide (v = V.non) = isNonD d := by
        by_cases z : v = .non
        · have := hx.nonIff.mp z
          subst this; rw [decide_eq_true z]; rfl
        · rw [decide_eq_false z]
          cases d <;> first | rfl | exact absurd (hx.nonIff.mpr rfl) z
      rw [this]; exact q _ _ .bl
    · cases h
  | notN =>
    simp only [syn1] at h
    split at h
    · cases h
      refine (pe_cmpR op_notN ha pe_non (nomark _)).imp fun σ H Q q => (p1_core hK q).mono fun v H1 r => ⟨rfl, ?_⟩
      obtain ⟨F, d, r', hF, hx, ho, q⟩ := r
      obtain rfl := Option.some.inj ho
      have : decide (v = V.non) = isNonD d := by
        by_cases z : v = .non
        · have := hx.nonIff.mp z
          subst this; rw [decide_eq_true z]; rfl
        · rw [decide_eq_false z]
          cases d <;> first | rfl | exact absurd (hx.nonIff.mpr rfl) z
      rw [this]; exact q _ _ .bl
    · cases h
  | isT t =>
    simp only [syn1] at h
    split at h
    · rename_i x px a' y py pos
      split at h
      · rename_i q
        simp only [Bool.and_eq_true, decide_eq_true_eq] at q
        obtain ⟨⟨⟨⟨e1, g1⟩, e2⟩, g2⟩, n⟩ := q
        cases h
        subst e1 e2
        obtain ⟨a1, a2, a3⟩ := Xo.gl g1
        obtain ⟨b1, b2, b3⟩ := Xo.gl g2
        have hy : PE X (.Name (Str.ofString t.nm) py) (tC (.ty t.nm)) := pe_bltn b1 (Xo.bl _ (by cases t <;> decide +kernel)) (by cases t <;> decide +kernel) (v := .ty t.nm) (u := .type t.nm) rfl b3 b2
        refine (pe_callB call_isi a1 (Xo.bl _ (by decide +kernel)) (by decide +kernel) (pa_cons ha (pa_cons hy pa_nil) (star_ns n)) a3 a2 (star_ns n) rfl).imp fun σ H Q q => (p1_core hK q).mono fun v H1 r => ?_
        obtain ⟨F, d, r', hF, hx, ho, q⟩ := r
        obtain ⟨b, h1, rfl⟩ := Option.map_eq_some_iff.mp (show (isTy d t).map D.bl = some r' from ho)
        obtain ⟨u, h2, h3⟩ := hx.ty t h1
        exact ⟨v, .ty t.nm, u, .type t.nm, b, rfl, .ty _, h2, h3, q _ _ .bl⟩
      · cases h
    · cases h
  | isTrue_ =>
    simp only [syn1] at h
    split at h
    · cases h
      refine (pe_cmpR op_isBl ha (pe_bl (b := true)) (nomark _)).imp fun σ H Q q => (p1_core hK q).mono fun v H1 r => ?_
      obtain ⟨F, d, r', hF, hx, ho, q⟩ := r
      cases d <;> first | (simp only [op1] at ho; cases ho; done) | skip
      rename_i b
      obtain rfl := Option.some.inj ho
      refine ⟨b, true, hx.bl, rfl, ?_⟩
      have := q (.bl b) H1 .bl
      cases b <;> exact this
    · cases h
  | isFalse_ =>
    simp only [syn1] at h
    split at h
    · cases h
      refine (pe_cmpR op_isBl ha (pe_bl (b := false)) (nomark _)).imp fun σ H Q q => (p1_core hK q).mono fun v H1 r => ?_
      obtain ⟨F, d, r', hF, hx, ho, q⟩ := r
      cases d <;> first | (simp only [op1] at ho; cases ho; done) | skip
      rename_i b
      obtain rfl := Option.some.inj ho
      refine ⟨b, false, hx.bl, rfl, ?_⟩
      have := q (.bl (!b)) H1 .bl
      cases b <;> exact this
    · cases h
  | notTrue_ =>
    simp only [syn1] at h
    split at h
    · cases h
      refine (pe_cmpR op_notBl ha (pe_bl (b := true)) (nomark _)).imp fun σ H Q q => (p1_core hK q).mono fun v H1 r => ?_
      obtain ⟨F, d, r', hF, hx, ho, q⟩ := r
      cases d <;> first | (simp only [op1] at ho; cases ho; done) | skip
      rename_i b
      obtain rfl := Option.some.inj ho
      refine ⟨b, true, hx.bl, rfl, ?_⟩
      have := q (.bl (!b)) H1 .bl
      cases b <;> exact this
    · cases h
  | notFalse_ =>
    simp only [syn1] at h
    split at h
    · cases h
      refine (pe_cmpR op_notBl ha (pe_bl (b := false)) (nomark _)).imp fun σ H Q q => (p1_core hK q).mono fun v H1 r => ?_
      obtain ⟨F, d, r', hF, hx, ho, q⟩ := r
      cases d <;> first | (simp only [op1] at ho; cases ho; done) | skip
      rename_i b
      obtain rfl := Option.some.inj ho
      refine ⟨b, false, hx.bl, rfl, ?_⟩
      have := q (.bl b) H1 .bl
      cases b <;> exact this
    · cases h
  | sorted_ => obtain ⟨x, pp, pos, rfl, rfl, g, n⟩ := call rfl; exact cb1 Xo hK vo_sorted g n (by decide +kernel) (by decide +kernel) ha
/-! ### two operands -/
theorem p2_core (hK : G.K = X.K) {p : P2} {b : C} {σ : L2.St} {H : Hp} {Q : VK} (h : tE T Φ G M (.p2 p c b) σ H Q) :
    tB T Φ G M c σ H (fun v H1 => tB T Φ G M b σ H1 (fun u H2 => r2 p X.K v u H2 Q)) := by
  obtain ⟨ε, r, ε', R, hd, f⟩ := h
  obtain ⟨⟨d, ε1⟩, h1, h2⟩ := Option.bind_eq_some_iff.mp (show (denE T Φ c ε).bind (fun (d, ε1) => (denE T Φ b ε1).bind fun (e, ε2) => (lateC c d ε2).bind fun d' => (op2 p d' e).map fun r => (r, ε2)) = some (r, ε') from hd)
  obtain ⟨⟨e, ε2⟩, h3, h4⟩ := Option.bind_eq_some_iff.mp h2
  obtain ⟨d', h5, h6⟩ := Option.bind_eq_some_iff.mp h4
  obtain ⟨r', h7, h8⟩ := Option.map_eq_some_iff.mp h6
  injection h8 with e1 e2
  subst e1 e2
  refine ⟨ε, d, ε1, R, h1, fun v H1 R1 x1 o b1 => ⟨ε1, e, ε2, R1, h3, fun u H2 R2 x2 o2 b2 => ?_⟩⟩
  rw [← hK]
  exact ⟨_, d', e, _, R2.taken, (b1.ext x2).late R2 h5, o2, h7, fin_op R2 (x1.trans x2) f⟩
theorem ns_mark {op : CmpOp} {b : Expr} (h : ns b = true) : behindInMarks op b = false := by
  cases b <;> first | rfl | (simp [ns] at h)
theorem not_slice {a : Expr} (h : ns a = true) : PlainIx a := by
  intro o i
  cases a <;> first | rfl | (simp [ns] at h)
theorem p2_ok (Xo : XOk T Φ Gs k S X) (hK : G.K = X.K) {p : P2} {b : C} {x y : Expr} (h : syn2 S p e = some (x, y)) (ha : PE X x (tB T Φ G M c)) (hb : PE X y (tB T Φ G M b)) : PE X e (tE T Φ G M (.p2 p c b)) := by
  unfold syn2 at h
  split at h
  · rename_i a1 op b1 pos
    split at h
    · rename_i ho
      cases h
      have key : ∀ {f}, OpR X (binaryOp op) f → (∀ x y H Q, r2 p X.K x y H Q → f x y H Q) → PE X (.BinOp x op y pos) (tE T Φ G M (.p2 p c b)) := fun {f} hf hi =>
        (pe_op (hf.imp hi) ha hb).imp fun σ H Q q => p2_core hK q
      cases p <;> simp only [opOf] at ho <;> first | (cases ho; done) | skip
      · cases ho; exact key vo_add fun _ _ _ _ z => z
      · cases ho; exact key vo_sub fun _ _ _ _ z => z
      · cases ho; exact key vo_mul fun _ _ _ _ z => z
      · cases ho; exact key vo_fdiv fun _ _ _ _ z => z
      · cases ho; exact key vo_mod fun _ _ _ _ z => z
      · cases ho; exact key vo_pow fun _ _ _ _ z => z
    · cases h
  · rename_i a1 op b1 pos
    split at h
    · rename_i ho
      cases h
      have key : OpR X (compareOp op) (r2 p X.K) → behindInMarks op y = false → PE X (.Compare x [op] [y] pos) (tE T Φ G M (.p2 p c b)) := fun hf hm =>
        (pe_cmpR hf ha hb hm).imp fun σ H Q q => p2_core hK q
      have hu : X.A.units + 64 < cLine := by have := Xo.hu; omega
      cases p <;> simp only [cmpOf] at ho <;> first | (cases ho; done) | skip
      · cases ho; exact key (vo_eq hu) (nomark _)
      · cases ho; exact key (vo_ne hu) (nomark _)
      · cases ho; exact key vo_lt (nomark _)
      · cases ho; exact key vo_le (nomark _)
      · cases ho; exact key vo_gt (nomark _)
      · cases ho; exact key vo_ge (nomark _)
    · split at h
      · rename_i ho
        obtain ⟨ho, hn⟩ := ho
        cases h
        have key : OpR X (compareOp op) (r2 p X.K) → PE X (.Compare x [op] [y] pos) (tE T Φ G M (.p2 p c b)) := fun hf =>
          (pe_cmpR hf ha hb (ns_mark hn)).imp fun σ H Q q => p2_core hK q
        have hu : X.A.units + 65 < cLine := by have := Xo.hu; omega
        cases p <;> simp only [cmpIn] at ho <;> first | (cases ho; done) | skip
        · cases ho; exact key (vo_in hu)
        · cases ho; exact key (vo_nin hu)
      · cases h
  · split at h
    · rename_i q
      simp only [Bool.and_eq_true, decide_eq_true_eq] at q
      obtain ⟨rfl, n⟩ := q
      cases h
      exact (pe_ix (vo_idx (by have := Xo.hu; omega)) ha hb (not_slice n)).imp fun σ H Q q => p2_core hK q
    · cases h
  · rename_i z pz a1 b1 pos
    split at h
    · rename_i q
      simp only [Bool.and_eq_true, Bool.or_eq_true, decide_eq_true_eq] at q
      obtain ⟨⟨⟨n1, n2⟩, g⟩, q⟩ := q
      cases h
      obtain ⟨g1, g2, g3⟩ := Xo.gl g
      rcases q with ⟨rfl, rfl⟩ | ⟨rfl, rfl⟩
      · refine (pe_callB (vo_max2 Xo.calm) g1 (Xo.bl _ (by decide +kernel)) (by decide +kernel) (pa_cons ha (pa_cons hb pa_nil (star_ns n2)) (star_ns n1)) g3 g2 (star_ns n1) (by rw [star_ns n2]; rfl)).imp fun σ H Q q => ?_
        exact (p2_core hK q).mono fun v H1 r => r.mono fun u H2 r => ⟨v, u, rfl, r⟩
      · refine (pe_callB (vo_min2 Xo.calm) g1 (Xo.bl _ (by decide +kernel)) (by decide +kernel) (pa_cons ha (pa_cons hb pa_nil (star_ns n2)) (star_ns n1)) g3 g2 (star_ns n1) (by rw [star_ns n2]; rfl)).imp fun σ H Q q => ?_
        exact (p2_core hK q).mono fun v H1 r => r.mono fun u H2 r => ⟨v, u, rfl, r⟩
    · cases h
  · cases h
/-! ### displays -/
theorem es_nil : PA X [] (tEs T Φ G M .nil) := by
  refine pa_nil.imp fun σ H Q q => ?_
  obtain ⟨ε, ds, ε', R, hd, f⟩ := q
  injection hd with z
  injection z with e1 e2
  subst e1 e2
  exact f [] H R .refl .nil
theorem es_cons {cs : Cs} {es : List Expr} (hn : ns a = true) (ha : PE X a (tE T Φ G M c)) (hr : PA X es (tEs T Φ G M cs)) : PA X (a :: es) (tEs T Φ G M (.cons c cs)) := by
  refine (pa_cons ha hr (star_ns hn)).imp fun σ H Q q => ?_
  obtain ⟨ε, ds, ε', R, hd, f⟩ := q
  obtain ⟨⟨d, ε1⟩, h1, h2⟩ := Option.bind_eq_some_iff.mp (show (denE T Φ c ε).bind (fun (d, ε1) => (denEs T Φ cs ε1).map fun (ds, ε2) => (d :: ds, ε2)) = some (ds, ε') from hd)
  obtain ⟨⟨ds', ε2⟩, h3, h4⟩ := Option.map_eq_some_iff.mp h2
  injection h4 with e1 e2
  subst e1 e2
  exact ⟨ε, d, ε1, R, h1, fun v H1 R1 x1 o => ⟨ε1, ds', ε2, R1, h3, fun vs H2 R2 x2 o2 => f _ _ R2 (x1.trans x2) (.cons (o.rd.ext x2) o2)⟩⟩
theorem newl_ok {ε2 : Ev} {σ : L2.St} {H H2 : Hp} {vs : List V} {ds : List D} {Q : VK} (R : Rel G M ε2 σ H2) (x : Ext M σ H H2) (o : RDs G.K H2 (Forb G M σ) vs ds)
    (q : ∀ v H1, Rel G M ε2 σ H1 → Ext M σ H H1 → ROk true G M ε2 σ H H1 v (.lst ds) → Q v H1) : ∀ p, H2 p = none → Q (.ref p) (upd H2 p (.lst vs)) := fun p hp =>
  fin_op R x q _ _ (.newl hp R.taken o)
theorem lst_ok {cs : Cs} {es : List Expr} {pos : Pos} (hr : PA X es (tEs T Φ G M cs)) : PE X (.List es pos) (tE T Φ G M (.lst cs)) := by
  refine (pe_lst hr).imp fun σ H Q q => ?_
  obtain ⟨ε, d, ε', R, hd, f⟩ := q
  obtain ⟨⟨ds, ε1⟩, h1, h2⟩ := Option.bind_eq_some_iff.mp (show (denEs T Φ cs ε).bind (fun (ds, ε1) => if ds.length ≤ lim then some (D.lst ds, ε1) else none) = some (d, ε') from hd)
  dsimp only at h2
  split at h2
  · rename_i hl
    injection h2 with z
    injection z with e1 e2
    subst e1 e2
    exact ⟨ε, ds, ε1, R, h1, fun vs H1 R1 x1 o => ⟨by rw [o.length]; exact Nat.le_trans hl lim_le, newl_ok R1 x1 o f⟩⟩
  · cases h2
theorem tup_ok {cs : Cs} {es : List Expr} {kk : Nat} {pos : Pos} (hr : PA X es (tEs T Φ G M cs)) : PE X (.Tuple es kk pos) (tE T Φ G M (.tup cs)) := by
  refine (pe_tup hr).imp fun σ H Q q => ?_
  obtain ⟨ε, d, ε', R, hd, f⟩ := q
  obtain ⟨⟨ds, ε1⟩, h1, h2⟩ := Option.bind_eq_some_iff.mp (show (denEs T Φ cs ε).bind (fun (ds, ε1) => if ds.length ≤ lim then some (D.tup ds, ε1) else none) = some (d, ε') from hd)
  dsimp only at h2
  split at h2
  · rename_i hl
    injection h2 with z
    injection z with e1 e2
    subst e1 e2
    exact ⟨ε, ds, ε1, R, h1, fun vs H1 R1 x1 o => ⟨by rw [o.length]; exact Nat.le_trans hl lim_le, fun p hp => fin_op R1 x1 f _ _ (.newt hp R1.taken o)⟩⟩
  · cases h2
/-! ### slices -/
theorem o_none : PO X none (tOp1 T Φ G M .none) := by
  refine po_none.imp fun σ H Q q => ?_
  obtain ⟨ε, d, ε', R, hd, f⟩ := q
  injection hd with z
  injection z with e1 e2
  subst e1 e2
  exact f H R .refl
theorem o_some (ha : PE X a (tE T Φ G M c)) : PO X (some a) (tOp1 T Φ G M (.some c)) := by
  refine (po_some ha).imp fun σ H Q q => ?_
  obtain ⟨ε, d, ε', R, hd, f⟩ := q
  obtain ⟨⟨d', ε1⟩, h1, h2⟩ := Option.bind_eq_some_iff.mp (show (denE T Φ c ε).bind (fun (d, ε1) => match d with | .int i => some (some i, ε1) | _ => none) = some (d, ε') from hd)
  refine ⟨ε, d', ε1, R, h1, fun v H1 R1 x1 o => ?_⟩
  cases d' with
  | int i =>
    injection h2 with z
    injection z with e1 e2
    subst e1 e2
    exact ⟨i, o.rd.isint, f H1 R1 x1⟩
  | _ => cases h2
theorem slc_ok (hK : G.K = X.K) {lo hi : CO} {l u : Option Expr} {p2 pos : Pos} (ha : PE X a (tB T Φ G M c)) (hl : PO X l (tOp1 T Φ G M lo)) (hh : PO X u (tOp1 T Φ G M hi)) : PE X (.Subscript a (.Slice l u none p2) pos) (tE T Φ G M (.slc c lo hi)) := by
  refine (pe_slice sl_list ha hl hh).imp fun σ H Q q => ?_
  obtain ⟨ε, r, ε', R, hd, f⟩ := q
  obtain ⟨⟨d, ε1⟩, h1, h2⟩ := Option.bind_eq_some_iff.mp (show (denE T Φ c ε).bind (fun (d, ε1) => (denO T Φ lo ε1).bind fun (l, ε2) => (denO T Φ hi ε2).bind fun (h, ε3) => (lateC c d ε3).bind fun d' => (slcD d' l h).map fun r => (r, ε3)) = some (r, ε') from hd)
  obtain ⟨⟨l, ε2⟩, h3, h4⟩ := Option.bind_eq_some_iff.mp h2
  obtain ⟨⟨h, ε3⟩, h5, h6⟩ := Option.bind_eq_some_iff.mp h4
  obtain ⟨d', h7, h8⟩ := Option.bind_eq_some_iff.mp h6
  obtain ⟨r', h9, h10⟩ := Option.map_eq_some_iff.mp h8
  injection h10 with e1 e2
  subst e1 e2
  refine ⟨ε, d, ε1, R, h1, fun v H1 R1 x1 o b1 => ⟨ε1, l, ε2, R1, h3, fun H2 R2 x2 => ⟨ε2, h, ε3, R2, h5, fun H3 R3 x3 => ?_⟩⟩⟩
  have o3 := ((b1.ext x2).ext x3).late R3 h7
  cases d' with
  | lst xs =>
    obtain rfl := Option.some.inj h9
    obtain ⟨b, ys, rfl, e1, e2⟩ := o3.list
    refine ⟨b, ys, rfl, .of e1, newl_ok R3 ((x1.trans x2).trans x3) ?_ f⟩
    unfold cutD cutV
    rw [e2.length]
    exact (e2.drop _).take _
  | _ => cases h9
end
end VS

set_option maxHeartbeats 400000
/-! V7: calls of defs, tests. -/
namespace VS
open PySem PySem.Spec PyProof.Rows L2

section
variable {T : Tb} {Φ : Ph} {Gs : Gc} {k : Nat} {S : Sc} {X : Cx} {G : Gh} {M : List Md} {c : C} {e a : Expr}
theorem look_putI {ε : Ev} {i j : Nat} {d x : D} (h : look (putI ε i d) j = some x) : (i = j ∧ x = d) ∨ (i ≠ j ∧ look ε j = some x) := by
  by_cases q : i = j
  · subst q
    refine .inl ⟨rfl, ?_⟩
    unfold look putI at h
    by_cases hl : i < ε.length
    · rw [List.getElem?_set_self hl] at h
      simpa using h.symm
    · rw [List.getElem?_eq_none (by rw [List.length_set]; omega)] at h
      cases h
  · refine .inr ⟨q, ?_⟩
    unfold look putI at h
    rw [List.getElem?_set_ne q] at h
    exact h
theorem putI_length {ε : Ev} {i : Nat} {d : D} : (putI ε i d).length = ε.length := by unfold putI; rw [List.length_set]

/-! ### arguments -/
theorem as_nil : PA X [] (tAs T Φ G M .nil) := by
  refine pa_nil.imp fun σ H Q q => ?_
  obtain ⟨ε, ds, ε', R, hd, f⟩ := q
  injection hd with z
  injection z with e1 e2
  subst e1 e2
  exact f [] H R .refl trivial
theorem BOks.ext {σ : L2.St} {H H1 : Hp} (x : Ext M σ H H1) : ∀ {cs : Cs} {vs : List V} {ds : List D}, BOks G M σ H cs vs ds → BOks G M σ H1 cs vs ds
  | .nil, [], [], _ => trivial
  | .cons c r, v :: vs, d :: ds, h => ⟨h.1.ext x, BOks.ext x h.2⟩
theorem as_cons {cs : Cs} {es : List Expr} (hn : ns a = true) (ha : PE X a (tB T Φ G M c)) (hr : PA X es (tAs T Φ G M cs)) : PA X (a :: es) (tAs T Φ G M (.cons c cs)) := by
  refine (pa_cons ha hr (star_ns hn)).imp fun σ H Q q => ?_
  obtain ⟨ε, ds, ε', R, hd, f⟩ := q
  obtain ⟨⟨d, ε1⟩, h1, h2⟩ := Option.bind_eq_some_iff.mp (show (denE T Φ c ε).bind (fun (d, ε1) => (denEs T Φ cs ε1).map fun (ds, ε2) => (d :: ds, ε2)) = some (ds, ε') from hd)
  obtain ⟨⟨ds', ε2⟩, h3, h4⟩ := Option.map_eq_some_iff.mp h2
  injection h4 with e1 e2
  subst e1 e2
  exact ⟨ε, d, ε1, R, h1, fun v H1 R1 x1 _ b => ⟨ε1, ds', ε2, R1, h3, fun vs H2 R2 x2 o2 => f _ _ R2 (x1.trans x2) ⟨b.ext x2, o2⟩⟩⟩
/-- the slots of the lists handed over -/
def vOf (σ : L2.St) (i : Nat) (v : V) : Prop := σ[i]? = some (some v)
theorem args_fin {σ : L2.St} {H : Hp} {ε : Ev} (R : Rel G M ε σ H) : ∀ {ms : List Md} {as : Cs} {es : List Expr} {vs : List V} {ds ds' : List D}, chkAs T Gs S M ms as es = true → BOks G M σ H as vs ds → lates as ds ε = some ds' → oMut ms ds' = true →
    ArgsOk G.K H (Forb G M σ) ms vs ds' ∧ vs.length = ms.length
  | [], .nil, [], [], [], ds', _, _, hl, _ => by injection hl with e; subst e; exact ⟨trivial, rfl⟩
  | .S :: ms, .cons c r, e :: es, v :: vs, d :: ds, ds', hc, hb, hl, ho => by
    simp only [chkAs, Bool.and_eq_true] at hc
    simp only [lates] at hl
    split at hl
    · rename_i d' r' h1 h2
      injection hl with z
      subst z
      obtain ⟨h3, h4⟩ := args_fin R hc.2 hb.2 h2 (by simpa [oMut] using ho)
      refine ⟨⟨?_, h3⟩, congrArg Nat.succ h4⟩
      show RD G.K H (Forb G M σ) v d'
      have hbb := hb.1
      cases c with
      | var i =>
        cases e <;> first | (simp [chkE] at hc; done) | skip
        simp only [chkE, Bool.and_eq_true, decide_eq_true_eq] at hc
        obtain ⟨w, h5, h6⟩ := R.varS (show look ε i = some d' from h1) hc.1.1.2
        have : σ[i]? = some (some v) := hbb
        rw [this] at h5
        have : v = w := Option.some.inj (Option.some.inj h5)
        rw [this]; exact h6
      | _ =>
        have e1 : d = d' := Option.some.inj h1
        rw [← e1]; exact hbb
    · cases hl
  | .B :: ms, .cons c r, e :: es, v :: vs, d :: ds, ds', hc, hb, hl, ho => by
    simp only [chkAs, Bool.and_eq_true] at hc
    simp only [lates] at hl
    split at hl
    · rename_i d' r' h1 h2
      injection hl with z
      subst z
      obtain ⟨h3, h4⟩ := args_fin R hc.2 hb.2 h2 (by simpa [oMut] using ho)
      exact ⟨⟨hb.1.late R h1, h3⟩, congrArg Nat.succ h4⟩
    · cases hl
  | .L :: ms, .cons c r, e :: es, v :: vs, d :: ds, ds', hc, hb, hl, ho => by cases c <;> simp [chkAs] at hc
  | .O :: ms, .cons (.var i) r, .Name x p :: es, v :: vs, d :: ds, ds', hc, hb, hl, ho => by
    simp only [chkAs, Bool.and_eq_true, decide_eq_true_eq] at hc
    simp only [lates] at hl
    split at hl
    · rename_i d' r' h1 h2
      injection hl with z
      subst z
      simp only [oMut, Bool.and_eq_true] at ho
      obtain ⟨h3, h4⟩ := args_fin R hc.2 hb.2 h2 ho.2
      refine ⟨⟨⟨hb.1.late R h1, ?_⟩, h3⟩, congrArg Nat.succ h4⟩
      have hr := hb.1.late R h1
      have ht : ∀ a, v = .ref a → Forb G M σ a := fun a ev => Forb.own (.inl hc.1.2) (by show σ[i]? = _; rw [← ev]; exact hb.1)
      cases d' <;> first | (simp [mutD] at ho; done) | skip
      · obtain ⟨a, _, ev, _⟩ := hr.list; exact ⟨a, ev, ht a ev⟩
      · obtain ⟨a, _, ev, _⟩ := hr.dict; exact ⟨a, ev, ht a ev⟩
      · obtain ⟨a, _, ev, _⟩ := hr.sets; exact ⟨a, ev, ht a ev⟩
    · cases hl
theorem chkAs_shape {m : Md} {ms : List Md} {as : Cs} {es : List Expr} {σ : L2.St} {H : Hp} {vs : List V} {ds : List D} (hc : chkAs T Gs S M (m :: ms) as es = true) (hb : BOks G M σ H as vs ds) :
    ∃ c r e es' v vs' d ds', as = .cons c r ∧ es = e :: es' ∧ vs = v :: vs' ∧ ds = d :: ds' ∧ BOk c G M σ H v d ∧ BOks G M σ H r vs' ds' ∧ chkAs T Gs S M ms r es' = true ∧ (m = .O → ∃ i, c = .var i ∧ md M i = .O) ∧ m ≠ .L := by
  cases as with
  | nil => cases m <;> simp [chkAs] at hc
  | cons c r =>
    cases es with
    | nil => cases m <;> cases c <;> simp [chkAs] at hc
    | cons e es =>
      cases vs with
      | nil => simp [BOks] at hb
      | cons v vs =>
        cases ds with
        | nil => simp [BOks] at hb
        | cons d ds =>
          refine ⟨c, r, e, es, v, vs, d, ds, rfl, rfl, rfl, rfl, hb.1, hb.2, ?_⟩
          cases m with
          | S => simp only [chkAs, Bool.and_eq_true] at hc; exact ⟨hc.2, (fun z => by cases z), (fun z => by cases z)⟩
          | B => simp only [chkAs, Bool.and_eq_true] at hc; exact ⟨hc.2, (fun z => by cases z), (fun z => by cases z)⟩
          | O =>
            cases c <;> cases e <;> first | (simp [chkAs] at hc; done) | skip
            simp only [chkAs, Bool.and_eq_true, decide_eq_true_eq] at hc
            exact ⟨hc.2, (fun _ => ⟨_, rfl, hc.1.2⟩), (fun z => by cases z)⟩
          | L => cases c <;> simp [chkAs] at hc
/-- which slot an argument that will be changed stands in -/
theorem o_slot {σ : L2.St} {H : Hp} : ∀ {ms : List Md} {as : Cs} {es : List Expr} {vs : List V} {ds : List D}, chkAs T Gs S M ms as es = true → BOks G M σ H as vs ds → ∀ (j : Nat) (v : V), ms[j]? = some .O → vs[j]? = some v →
    ∃ i, md M i = .O ∧ σ[i]? = some (some v) ∧ (oVars ms as)[((ms.take j).filter (· == .O)).length]? = some i := by
  intro ms
  induction ms with
  | nil => intro as es vs ds _ _ j v h1; simp at h1
  | cons m ms ih =>
    intro as es vs ds hc hb j v h1 h2
    obtain ⟨c, r, e, es', v', vs', d, ds', rfl, rfl, rfl, rfl, b1, b2, hc2, hO, hL⟩ := chkAs_shape hc hb
    cases j with
    | zero =>
      simp at h1 h2
      subst h1 h2
      obtain ⟨i, rfl, hm⟩ := hO rfl
      exact ⟨i, hm, b1, rfl⟩
    | succ j =>
      obtain ⟨i, a, b, q⟩ := ih hc2 b2 j v (by simpa using h1) (by simpa using h2)
      refine ⟨i, a, b, ?_⟩
      cases m with
      | S => simpa [oVars] using q
      | B => simpa [oVars] using q
      | L => exact absurd rfl hL
      | O =>
        obtain ⟨i', rfl, _⟩ := hO rfl
        simpa [oVars] using q
theorem count_inj {ms : List Md} : ∀ {i j : Nat}, ms[i]? = some .O → ms[j]? = some .O → ((ms.take i).filter (· == Md.O)).length = ((ms.take j).filter (· == Md.O)).length → i = j := by
  induction ms with
  | nil => intro i j h; simp at h
  | cons m ms ih =>
    intro i j hi hj he
    cases i with
    | zero =>
      cases j with
      | zero => rfl
      | succ j =>
        simp at hi
        subst hi
        simp at he
    | succ i =>
      cases j with
      | zero =>
        simp at hj
        subst hj
        simp at he
      | succ j =>
        have e2 := ih (i := i) (j := j) (by simpa using hi) (by simpa using hj) (by
          cases m <;> simpa using he)
        rw [e2]
theorem b_slot {σ : L2.St} {H : Hp} {ε : Ev} (R : Rel G M ε σ H) : ∀ {ms : List Md} {as : Cs} {es : List Expr} {vs : List V} {ds ds' : List D}, chkAs T Gs S M ms as es = true → BOks G M σ H as vs ds → lates as ds ε = some ds' → ∀ (j : Nat) (a : Addr) (d : D), ms[j]? = some .B → vs[j]? = some (.ref a) →
    ds'[j]? = some d → mutD d = true → (∃ i, i ∈ bVars ms as ∧ At σ i a ∧ look ε i = some d) ∨ ¬ Forb G M σ a := by
  intro ms
  induction ms with
  | nil => intro as es vs ds ds' _ _ _ j a d h1; simp at h1
  | cons m ms ih =>
    intro as es vs ds ds' hc hb hl j a d h1 h2 h3 h4
    obtain ⟨c, r, e, es', v', vs', d0, ds0, rfl, rfl, rfl, rfl, b1, b2, hc2, hO, hL⟩ := chkAs_shape hc hb
    simp only [lates] at hl
    split at hl
    rotate_left
    · cases hl
    rename_i d' r' g1 g2
    injection hl with z
    subst z
    cases j with
    | zero =>
      simp at h1 h2 h3
      subst h1 h2 h3
      by_cases hv : ∃ i, c = .var i
      · obtain ⟨i, rfl⟩ := hv
        exact .inl ⟨i, by simp [bVars], b1, g1⟩
      · refine .inr ?_
        have hg : some d0 = some d' := by
          cases c <;> first | exact g1 | exact absurd ⟨_, rfl⟩ hv
        injection hg with hg
        subst hg
        have hr : RD G.K H (Forb G M σ) (.ref a) d0 := by
          cases c <;> first | exact b1 | exact absurd ⟨_, rfl⟩ hv
        cases hr <;> first | assumption | (simp [mutD] at h4; done)
    | succ j =>
      have up : ∀ {i}, i ∈ bVars ms r → i ∈ bVars (m :: ms) (.cons c r) := fun {i} hi => by
        cases m <;> cases c <;> simp [bVars, hi]
      exact (ih hc2 b2 g2 j a d (by simpa using h1) (by simpa using h2) (by simpa using h3) h4).imp (fun ⟨i, q, w⟩ => ⟨i, up q, w⟩) id
theorem dist_of {σ : L2.St} {H : Hp} {ε : Ev} (R : Rel G M ε σ H) {ms : List Md} {as : Cs} {es : List Expr} {vs : List V} {ds ds' : List D} (hc : chkAs T Gs S M ms as es = true) (hb : BOks G M σ H as vs ds) (hl : lates as ds ε = some ds') (hn : (oVars ms as).Nodup)
    (hbo : ∀ i ∈ bVars ms as, i ∉ oVars ms as) : Dist ms vs ds' := by
  refine ⟨fun i j a h1 h2 h3 h4 => ?_, fun i j a d h1 g1 g2 h2 h3 h4 => ?_⟩
  · obtain ⟨s, m1, a1, q1⟩ := o_slot hc hb i _ h1 h3
    obtain ⟨t, m2, a2, q2⟩ := o_slot hc hb j _ h2 h4
    have e := R.inj s t a ⟨.inl m1, a1⟩ ⟨.inl m2, a2⟩
    subst e
    obtain ⟨l1, g1⟩ := List.getElem?_eq_some_iff.mp q1
    obtain ⟨l2, g2⟩ := List.getElem?_eq_some_iff.mp q2
    exact count_inj h1 h2 ((List.getElem_inj hn).mp (g1.trans g2.symm))
  · obtain ⟨t, m2, a2, q2⟩ := o_slot hc hb j _ h2 h4
    rcases b_slot R hc hb hl i a d h1 h3 g1 g2 with ⟨s, hs, a1, l1⟩ | hf
    · have ho : t ∈ oVars ms as := List.mem_of_getElem? q2
      have hne : s ≠ t := fun z => hbo s hs (z ▸ ho)
      cases hm : md M s with
      | S =>
        obtain ⟨w, b1, b2⟩ := R.varS l1 hm
        have ew : w = .ref a := by rw [show σ[s]? = some (some (V.ref a)) from a1] at b1; exact (Option.some.inj (Option.some.inj b1)).symm
        subst ew
        have : ¬ Forb G M σ a := by cases b2 <;> first | assumption | (simp [mutD] at g2; done)
        exact this (Forb.own (.inl m2) a2)
      | B => exact R.bor s t a d hm l1 g2 a1 ⟨.inl m2, a2⟩
      | O => exact hne (R.inj s t a ⟨.inl hm, a1⟩ ⟨.inl m2, a2⟩)
      | L => exact hne (R.inj s t a ⟨.inr hm, a1⟩ ⟨.inl m2, a2⟩)
    · exact hf (Forb.own (.inl m2) a2)
/-! ### behind the call -/
theorem outs_slots {σ : L2.St} {H H1 : Hp} {F' : AP} : ∀ {ms : List Md} {as : Cs} {es : List Expr} {vs : List V} {ds os : List D} {ε ε' : Ev}, chkAs T Gs S M ms as es = true → BOks G M σ H as vs ds → outsE ms as os ε = some ε' → OutsOk G.K H1 F' ms vs os →
    (∀ j d, look ε j = some d → j ∈ oVars ms as ∨ ∃ w, σ[j]? = some (some w) ∧ SlotOk G.K H1 F' (md M j) w d) → ∀ j d, look ε' j = some d → ∃ w, σ[j]? = some (some w) ∧ SlotOk G.K H1 F' (md M j) w d := by
  intro ms
  induction ms with
  | nil =>
    intro as es vs ds os ε ε' hc hb ho hO hs j d hj
    cases as with
    | nil =>
      cases os with
      | nil =>
        injection ho with z; subst z
        rcases hs j d hj with q | q
        · simp [oVars] at q
        · exact q
      | cons => simp [outsE] at ho
    | cons c r => simp [outsE] at ho
  | cons m ms ih =>
    intro as es vs ds os ε ε' hc hb ho hO hs j d hj
    obtain ⟨c, r, e, es', v', vs', d0, ds0, rfl, rfl, rfl, rfl, b1, b2, hc2, hOm, hL⟩ := chkAs_shape hc hb
    cases m with
    | S => exact ih hc2 b2 (by simpa [outsE] using ho) (by simpa [OutsOk] using hO) (fun j d h => (hs j d h).imp (fun q => by simpa [oVars] using q) id) j d hj
    | B => exact ih hc2 b2 (by simpa [outsE] using ho) (by simpa [OutsOk] using hO) (fun j d h => (hs j d h).imp (fun q => by simpa [oVars] using q) id) j d hj
    | L => exact absurd rfl hL
    | O =>
      obtain ⟨i, rfl, hm⟩ := hOm rfl
      cases os with
      | nil => simp [outsE] at ho
      | cons d1 os =>
        simp only [outsE] at ho
        simp only [OutsOk] at hO
        refine ih hc2 b2 ho hO.2 (fun j' d' h' => ?_) j d hj
        rcases look_putI h' with ⟨e1, e2⟩ | ⟨e1, e2⟩
        · subst e1 e2
          refine .inr ⟨v', b1, fun z => ?_, hO.1⟩
          rw [hm] at z; cases z
        · rcases hs j' d' e2 with q | q
          · simp only [oVars, List.mem_cons] at q
            rcases q with q | q
            · exact absurd q.symm e1
            · exact .inl q
          · exact .inr q
theorem outsE_length : ∀ {ms : List Md} {as : Cs} {os : List D} {ε ε' : Ev}, outsE ms as os ε = some ε' → ε'.length = ε.length := by
  intro ms
  induction ms with
  | nil =>
    intro as os ε ε' h
    cases as <;> cases os <;> simp [outsE] at h
    rw [h]
  | cons m ms ih =>
    intro as os ε ε' h
    cases m <;> cases as <;> first | (simp [outsE] at h; done) | skip
    · exact ih (by simpa [outsE] using h)
    · exact ih (by simpa [outsE] using h)
    · rename_i c r
      cases c <;> cases os <;> first | (simp [outsE] at h; done) | skip
      rw [ih (by simpa [outsE] using h), putI_length]
    · exact ih (by simpa [outsE] using h)
theorem outsE_B : ∀ {ms : List Md} {as : Cs} {es : List Expr} {σ : L2.St} {H : Hp} {vs : List V} {ds : List D} {os : List D} {ε ε' : Ev}, chkAs T Gs S M ms as es = true → BOks G M σ H as vs ds → outsE ms as os ε = some ε' → ∀ j, md M j ≠ .O → look ε' j = look ε j := by
  intro ms
  induction ms with
  | nil =>
    intro as es σ H vs ds os ε ε' hc hb h j hj
    cases as <;> cases os <;> simp [outsE] at h
    rw [h]
  | cons m ms ih =>
    intro as es σ H vs ds os ε ε' hc hb h j hj
    obtain ⟨c, r, e, es', v', vs', d0, ds0, rfl, rfl, rfl, rfl, b1, b2, hc2, hOm, hL⟩ := chkAs_shape hc hb
    cases m with
    | S => exact ih hc2 b2 (by simpa [outsE] using h) j hj
    | B => exact ih hc2 b2 (by simpa [outsE] using h) j hj
    | L => exact absurd rfl hL
    | O =>
      obtain ⟨i, rfl, hm⟩ := hOm rfl
      cases os with
      | nil => simp [outsE] at h
      | cons d1 os =>
        simp only [outsE] at h
        rw [ih hc2 b2 h j hj]
        have hij : i ≠ j := fun z => by rw [z] at hm; exact hj hm
        unfold look putI
        rw [List.getElem?_set_ne hij]
theorem oarg_own {σ : L2.St} {H : Hp} {ms : List Md} {as : Cs} {es : List Expr} {vs : List V} {ds : List D} (hc : chkAs T Gs S M ms as es = true) (hb : BOks G M σ H as vs ds) {b : Addr} (h : OArg ms vs b) : ∃ i, md M i = .O ∧ At σ i b := by
  obtain ⟨j, h1, h2⟩ := h
  obtain ⟨i, a, b', _⟩ := o_slot hc hb j _ h1 h2
  exact ⟨i, a, b'⟩
/-- the state behind a call; Gp: the ghost, or the ghost with a new place -/
theorem Rel.callP {Gp : Gh} {σ : L2.St} {H H1 : Hp} {ε ε' : Ev} (R : Rel G M ε σ H) {df : Df} {as : Cs} {es : List Expr} {vs : List V} {ds os : List D} (hc : chkAs T Gs S M df.ms as es = true) (hb : BOks G M σ H as vs ds) (he : outsE df.ms as os ε = some ε')
    (keep : ∀ b o, ¬ OArg df.ms vs b → H b = some o → H1 b = some o) (there : ∀ b, OArg df.ms vs b → H1 b ≠ none) (outs : OutsOk G.K H1 (Forb Gp M σ) df.ms vs os)
    (e1 : Gp.K = G.K) (e2 : Gp.H0 = G.H0) (e3 : Gp.pin = G.pin) (f1 : ∀ a, Forb Gp M σ a → H a ≠ none → Forb G M σ a) (f2 : ∀ a, Forb Gp M σ a → H a = none → H1 a ≠ none) (f3 : ∀ a, H a ≠ none → ¬ G.F a → ¬ Gp.F a) (f4 : ∀ a, Gp.nb a → G.nb a ∨ H a = none) : Rel Gp M ε' σ H1 := by
  have own : ∀ b, OArg df.ms vs b → ∃ i, md M i = .O ∧ At σ i b := fun b h => oarg_own hc hb h
  have stay : ∀ b, H b ≠ none → H1 b ≠ none := fun b n => by
    by_cases ho : OArg df.ms vs b
    · exact there b ho
    · cases q : H b with
      | none => exact absurd q n
      | some o => rw [keep b o ho q]; simp
  have off : ∀ b o, ¬ Forb G M σ b → H b = some o → H1 b = some o := fun b o f e => keep b o (fun ho => by
    obtain ⟨i, hm, ha⟩ := own b ho
    exact f (Forb.own (.inl hm) ha)) e
  have ioA : ∀ a, Gp.ioA a ↔ G.ioA a := fun a => by unfold Gh.ioA; rw [e3]
  refine ⟨by rw [outsE_length he]; exact R.len, R.ml, ?_, R.inj, fun i j a d h1 h2 h3 h4 h5 => ?_, fun i a d h1 h2 h3 h4 => ?_, fun i a h1 h2 => ?_, fun a f => ?_, fun b o n e => ?_, by rw [e3]; exact R.ios, by rw [e3]; exact R.lp, fun a na j d h1 h2 h3 h4 => ?_, by rw [e3]; exact R.pm, fun i a h1 h2 => ?_⟩
  · rw [e1]
    refine outs_slots hc hb he outs fun j d hj => ?_
    by_cases hj2 : j ∈ oVars df.ms as
    · exact .inl hj2
    · refine .inr ?_
      obtain ⟨w, g1, g2, g3⟩ := R.slot j d hj
      have gF : ∀ b, Forb Gp M σ b → H b ≠ none → Forb G M σ b := f1
      refine ⟨w, g1, fun hS => (g2 hS).go gF off, ?_⟩
      by_cases hS : md M j = .S
      · exact .of ((g2 hS).go gF off)
      · have top : ∀ b, w = .ref b → mutD d = true → ¬ OArg df.ms vs b := fun b ew hmu ho => by
          obtain ⟨jj, h1, h2⟩ := ho
          obtain ⟨i, hm, ha, hi⟩ := o_slot hc hb jj _ h1 h2
          have g1' : At σ j b := by unfold At; rw [g1, ew]
          have hij : j ≠ i := fun z => hj2 (z ▸ List.mem_of_getElem? hi)
          cases hmj : md M j with
          | S => exact hS hmj
          | B => exact R.bor j i b d hmj hj hmu g1' ⟨.inl hm, ha⟩
          | O => exact hij (R.inj j i b ⟨.inl hmj, g1'⟩ ⟨.inl hm, ha⟩)
          | L => exact hij (R.inj j i b ⟨.inr hmj, g1'⟩ ⟨.inl hm, ha⟩)
        cases g3 with
        | of h => exact .of (h.go gF off)
        | lst e r => exact .lst (keep _ _ (top _ rfl rfl) e) (r.go gF off)
        | dct e r => exact .dct (keep _ _ (top _ rfl rfl) e) (r.go gF off)
        | set e r n => exact .set (keep _ _ (top _ rfl rfl) e) r n
  · rw [outsE_B hc hb he i (by rw [h1]; exact fun z => nomatch z)] at h2
    exact R.bor i j a d h1 h2 h3 h4 h5
  · rw [outsE_B hc hb he i (by rw [h1]; exact fun z => nomatch z)] at h2
    exact stay a (R.balloc i a d h1 h2 h3 h4)
  · rw [e2]
    exact (R.fresh i a h1 h2).imp id (ioA a).mpr
  · cases q : H a with
    | none => exact f2 a f q
    | some o => exact stay a (by rw [q]; simp)
  · rw [e2] at e
    have n' : ¬ G.ioA b := fun z => n ((ioA b).mpr z)
    have e4 := R.frame b o n' e
    refine keep b o (fun ho => ?_) e4
    obtain ⟨i, hm, ha⟩ := own b ho
    rcases R.fresh i b hm ha with q | q
    · rw [q] at e; cases e
    · exact n' q
  · rw [outsE_B hc hb he j (by rw [h1]; exact fun z => nomatch z)] at h2
    rcases f4 a na with q | q
    · exact R.nob a q j d h1 h2 h3 h4
    · exact R.balloc j a d h1 h2 h3 h4 q
  · rcases R.nF i a h1 h2 with q | q
    · exact .inl (f3 a (R.alloc a (Forb.own (.inl h1) h2)) q)
    · exact .inr ((ioA a).mpr q)
/-! ### the call -/
theorem forb_self {Gp : Gh} (h : ∀ a, Gp.F a ↔ G.F a) {σ : L2.St} {a : Addr} : Forb Gp M σ a ↔ Forb G M σ a := by
  unfold Forb; rw [h]
theorem call_core (Xo : XOk T Φ Gs k S X) (hK : G.K = X.K) {f : Nat} {as : Cs} {es : List Expr} {df : Df} (hf : T f = some df) (hc : chkAs T Gs S M df.ms as es = true) (hn : (oVars df.ms as).Nodup) (hbo : ∀ i ∈ bVars df.ms as, i ∉ oVars df.ms as)
    {σ : L2.St} {H : Hp} {Q : VK} {ε : Ev} {ds : List D} {ε1 : Ev} {ds' : List D} {r : D} {os : List D} {ε2 : Ev} (R : Rel G M ε σ H) (h1 : denEs T Φ as ε = some (ds, ε1)) (h2 : lates as ds ε1 = some ds') (h3 : oMut df.ms ds' = true)
    (h4 : Φ f ds' = some (r, os)) (h5 : outsE df.ms as os ε1 = some ε2) (q : ∀ v H1, Rel G M ε2 σ H1 → Ext M σ H H1 → ROk df.fr G M ε2 σ H H1 v r → Q v H1) :
    tAs T Φ G M as σ H (fun vs H1 => spV X.K df (Φ f) (vs ++ []) H1 Q E0) := by
  refine ⟨ε, ds, ε1, R, h1, fun vs H1 R1 x1 b => ?_⟩
  show spV X.K df (Φ f) (vs ++ []) H1 Q E0
  rw [List.append_nil]
  obtain ⟨a1, a2⟩ := args_fin R1 hc b h2 h3
  refine ⟨a2, Forb G M σ, ds', r, os, R1.taken, by rw [← hK]; exact a1, dist_of R1 hc b h2 hn hbo, h4, fun v H2 o => ?_⟩
  rw [← hK] at o
  have x2 : Ext M σ H1 H2 := fun b' o' e h => o.keep b' o' (fun ho => by
    obtain ⟨i, hm, ha⟩ := oarg_own hc b ho
    exact h i hm ha) e
  have R2 : Rel G M ε2 σ H2 := R1.callP hc b h5 o.keep o.there o.outs rfl rfl rfl (fun _ z _ => z) (fun a z n => absurd n (R1.alloc a z)) (fun _ _ z => z) (fun _ z => .inl z)
  refine q v H2 R2 (x1.trans x2) ⟨o.rd, fun f1 m => ?_, o.imm⟩
  obtain ⟨p, ev, hp, hn', hT, hO⟩ := o.new f1 m
  have fp : ∀ a, Forb (G.plus p) M σ a → a = p ∨ Forb G M σ a := fun a z => forb_plus.mp z
  refine ⟨p, ev, x1.none R1 hp, ?_, hT⟩
  · refine R1.callP (Gp := G.plus p) hc b h5 o.keep o.there ?_ rfl rfl rfl (fun a z n => ?_) (fun a z n => ?_) (fun a n z zz => ?_) (fun a z => ?_)
    · have : ∀ a, Forb (G.plus p) M σ a ↔ wA p (Forb G M σ) a := fun a => forb_plus
      have e : Forb (G.plus p) M σ = wA p (Forb G M σ) := funext fun a => propext (this a)
      rw [e]; exact hO
    · rcases fp a z with e | z
      · exact absurd (e ▸ hp) n
      · exact z
    · rcases fp a z with e | z
      · rw [e]; exact hn'
      · exact absurd n (R1.alloc a z)
    · rcases zz with e | zz
      · exact absurd (e ▸ hp) n
      · exact z zz
    · rcases z with e | z
      · exact .inr (e ▸ hp)
      · exact .inl z
theorem den_call {f : Nat} {as : Cs} {ε : Ev} {r : D} {ε' : Ev} (h : denE T Φ (.call f as) ε = some (r, ε')) : ∃ ds ε1 ds' df os, denEs T Φ as ε = some (ds, ε1) ∧ lates as ds ε1 = some ds' ∧ T f = some df ∧ oMut df.ms ds' = true ∧ Φ f ds' = some (r, os) ∧ outsE df.ms as os ε1 = some ε' := by
  simp only [denE] at h
  obtain ⟨⟨ds, ε1⟩, h1, h2⟩ := Option.bind_eq_some_iff.mp h
  obtain ⟨ds', h3, h4⟩ := Option.bind_eq_some_iff.mp h2
  obtain ⟨df, h5, h6⟩ := Option.bind_eq_some_iff.mp h4
  split at h6
  · cases h6
  · rename_i hm
    obtain ⟨⟨r', os⟩, h7, h8⟩ := Option.bind_eq_some_iff.mp h6
    obtain ⟨ε2, h9, h10⟩ := Option.map_eq_some_iff.mp h8
    injection h10 with e1 e2
    subst e1 e2
    exact ⟨ds, ε1, ds', df, os, h1, h3, h5, by simpa using hm, h7, h9⟩
theorem den_callT {f : Nat} {as : Cs} {ε : Ev} {c : Bool} {ε' : Ev} (h : denT T Φ (.call f as) ε = some (c, ε')) : ∃ r, denE T Φ (.call f as) ε = some (r, ε') ∧ truth r = some c := by
  simp only [denT] at h
  obtain ⟨⟨ds, ε1⟩, h1, h2⟩ := Option.bind_eq_some_iff.mp h
  obtain ⟨ds', h3, h4⟩ := Option.bind_eq_some_iff.mp h2
  obtain ⟨df, h5, h6⟩ := Option.bind_eq_some_iff.mp h4
  split at h6
  · cases h6
  · rename_i hm
    obtain ⟨⟨r', os⟩, h7, h8⟩ := Option.bind_eq_some_iff.mp h6
    obtain ⟨ε2, h9, h10⟩ := Option.bind_eq_some_iff.mp h8
    obtain ⟨b, h11, h12⟩ := Option.map_eq_some_iff.mp h10
    injection h12 with e1 e2
    subst e1 e2
    refine ⟨r', ?_, h11⟩
    simp only [denE]
    refine Option.bind_eq_some_iff.mpr ⟨(ds, ε1), h1, Option.bind_eq_some_iff.mpr ⟨ds', h3, Option.bind_eq_some_iff.mpr ⟨df, h5, ?_⟩⟩⟩
    rw [if_neg hm]
    exact Option.bind_eq_some_iff.mpr ⟨(r', os), h7, Option.map_eq_some_iff.mpr ⟨ε2, h9, rfl⟩⟩
/-- what is known of each argument -/
def ArgsE (T : Tb) (Φ : Ph) (G : Gh) (M : List Md) (X : Cx) : List Expr → Cs → Prop
  | [], .nil => True
  | e :: es, .cons a r => ns e = true ∧ PE X e (tB T Φ G M a) ∧ ArgsE T Φ G M X es r
  | _, _ => False
def tV (T : Tb) (Φ : Ph) (G : Gh) (M : List Md) : List C → TA
  | [] => fun _ H Q => Q [] H
  | a :: r => fun σ H Q => tB T Φ G M a σ H fun v H1 => tV T Φ G M r σ H1 fun vs H2 => Q (v :: vs) H2
def lstC : Cs → List C
  | .nil => []
  | .cons a r => a :: lstC r
theorem tV.mono : ∀ {cs : List C} {σ : L2.St} {H : Hp} {Q Q' : List V → Hp → Prop}, tV T Φ G M cs σ H Q → (∀ vs H1, Q vs H1 → Q' vs H1) → tV T Φ G M cs σ H Q'
  | [], _, _, _, _, h, q => q _ _ h
  | a :: r, _, _, _, _, h, q => tB.mono (show tB T Φ G M a _ _ _ from h) fun v H1 h1 => tV.mono h1 fun vs H2 h2 => q _ _ h2
theorem as_step {cs : Cs} {σ : L2.St} {H : Hp} {Q : List V → Hp → Prop} (q : tAs T Φ G M (.cons c cs) σ H Q) : tB T Φ G M c σ H fun v H1 => tAs T Φ G M cs σ H1 fun vs H2 => Q (v :: vs) H2 := by
  obtain ⟨ε, ds, ε', R, hd, f⟩ := q
  obtain ⟨⟨d, ε1⟩, h1, h2⟩ := Option.bind_eq_some_iff.mp (show (denE T Φ c ε).bind (fun (d, ε1) => (denEs T Φ cs ε1).map fun (ds, ε2) => (d :: ds, ε2)) = some (ds, ε') from hd)
  obtain ⟨⟨ds', ε2⟩, h3, h4⟩ := Option.map_eq_some_iff.mp h2
  injection h4 with e1 e2
  subst e1 e2
  exact ⟨ε, d, ε1, R, h1, fun v H1 R1 x1 _ b => ⟨ε1, ds', ε2, R1, h3, fun vs H2 R2 x2 o2 => f _ _ R2 (x1.trans x2) ⟨b.ext x2, o2⟩⟩⟩
theorem as_tV : ∀ {cs : Cs} {σ : L2.St} {H : Hp} {Q : List V → Hp → Prop}, tAs T Φ G M cs σ H Q → tV T Φ G M (lstC cs) σ H fun zs H2 => zs.length = (lstC cs).length ∧ Q zs H2
  | .nil, σ, H, Q, q => by
    obtain ⟨ε, ds, ε', R, hd, f⟩ := q
    injection hd with z
    injection z with e1 e2
    subst e1 e2
    exact ⟨rfl, f [] H R .refl trivial⟩
  | .cons a r, σ, H, Q, q => tB.mono (as_step q) fun v H1 h1 => tV.mono (as_tV h1) fun vs H2 ⟨l, h2⟩ => ⟨congrArg Nat.succ l, h2⟩
theorem tV_split : ∀ {as bs : List C} {σ : L2.St} {H : Hp} {Q : List V → Hp → Prop}, tV T Φ G M (as ++ bs) σ H (fun zs H2 => zs.length = (as ++ bs).length ∧ Q zs H2) →
    tV T Φ G M as σ H fun vs H1 => tV T Φ G M bs σ H1 fun zs H2 => vs.length = as.length ∧ zs.length = bs.length ∧ Q (vs ++ zs) H2
  | [], bs, σ, H, Q, h => tV.mono (cs := bs) h fun vs H2 ⟨l, q⟩ => ⟨rfl, l, q⟩
  | a :: as, bs, σ, H, Q, h => tB.mono (show tB T Φ G M a σ H _ from h) fun v H1 h1 => tV.mono (tV_split (Q := fun zs H2 => Q (v :: zs) H2) (tV.mono (show tV T Φ G M (as ++ bs) σ H1 _ from h1) fun vs H2 ⟨l, q⟩ => ⟨Nat.succ.inj l, q⟩)) fun vs H2 h2 =>
      tV.mono h2 fun zs H3 ⟨l1, l2, q⟩ => ⟨congrArg Nat.succ l1, l2, q⟩
theorem tV_PA : ∀ {es : List Expr} {cs : List C}, es.length = cs.length → (∀ (i : Nat) e c, es[i]? = some e → cs[i]? = some c → ns e = true ∧ PE X e (tB T Φ G M c)) → PA X es (tV T Φ G M cs)
  | [], [], _, _ => pa_nil
  | e :: es, c :: cs, hl, h => by
    obtain ⟨h1, h2⟩ := h 0 e c rfl rfl
    exact pa_cons h2 (tV_PA (Nat.succ.inj hl) fun i e c a b => h (i + 1) e c (by simpa using a) (by simpa using b)) (star_ns h1)
theorem tV_PK : ∀ {kws : List Keyword} {cs : List C}, kws.length = cs.length → (∀ (i : Nat) k c, kws[i]? = some k → cs[i]? = some c → PE X k.value (tB T Φ G M c)) → PK X kws (tV T Φ G M cs)
  | [], [], _, _ => pk_nil
  | ⟨nm, e, kp⟩ :: kws, c :: cs, hl, h => pk_cons (h 0 ⟨nm, e, kp⟩ c rfl rfl) (tV_PK (Nat.succ.inj hl) fun i k c a b => h (i + 1) k c (by simpa using a) (by simpa using b))
theorem ArgsE.len : ∀ {es : List Expr} {cs : Cs}, ArgsE T Φ G M X es cs → es.length = (lstC cs).length
  | [], .nil, _ => rfl
  | _ :: es, .cons _ r, h => congrArg Nat.succ (ArgsE.len h.2.2)
  | [], .cons _ _, h => h.elim
  | _ :: _, .nil, h => h.elim
theorem ArgsE.get : ∀ {es : List Expr} {cs : Cs}, ArgsE T Φ G M X es cs → ∀ (i : Nat) e c, es[i]? = some e → (lstC cs)[i]? = some c → ns e = true ∧ PE X e (tB T Φ G M c)
  | _ :: es, .cons _ r, h, 0, e, c, h1, h2 => by
    simp [lstC] at h1 h2
    subst h1 h2
    exact ⟨h.1, h.2.1⟩
  | _ :: es, .cons _ r, h, i + 1, e, c, h1, h2 => ArgsE.get h.2.2 i e c (by simpa using h1) (by simpa [lstC] using h2)
  | [], .nil, _, i, e, c, h1, _ => by simp at h1
  | [], .cons _ _, h, _, _, _, _, _ => h.elim
  | _ :: _, .nil, h, _, _, _, _, _ => h.elim
theorem kwV_len : ∀ {kws : List Keyword}, (kwV kws).length = kws.length
  | [] => rfl
  | _ :: r => congrArg Nat.succ kwV_len
theorem kwV_get : ∀ {kws : List Keyword} {i : Nat} {k : Keyword}, kws[i]? = some k → (kwV kws)[i]? = some k.value
  | [], i, k, h => by simp at h
  | a :: r, 0, k, h => by
    simp at h
    subst h; rfl
  | a :: r, i + 1, k, h => kwV_get (kws := r) (i := i) (by simpa using h)
theorem kwN_ok {pos : Pos} {env : Env} : ∀ {kws : List Keyword} {xs : List Str} {n : Nat}, kwN kws xs n = true →
    (backToKw pos (keywordEach kws env)).all (·.1.isSome) = true ∧ (backToKw pos (keywordEach kws env)).filterMap (·.1) = xs.take n ∧ (backToKw pos (keywordEach kws env)).any (·.1.isNone) = false ∧ kws.length = (xs.take n).length
  | [], xs, 0, _ => ⟨rfl, by simp [keywordEach, backToKw], rfl, by simp⟩
  | [], _, _ + 1, h => by simp [kwN] at h
  | _ :: _, [], _, h => by simp [kwN] at h
  | _ :: _, _ :: _, 0, h => by simp [kwN] at h
  | ⟨nm, e, kp⟩ :: r, x :: xs, n + 1, h => by
    simp only [kwN, Bool.and_eq_true, decide_eq_true_eq] at h
    obtain ⟨rfl, h2⟩ := h
    obtain ⟨a, b, c, d⟩ := kwN_ok (pos := pos) (env := env) h2
    refine ⟨?_, ?_, ?_, ?_⟩
    · show (true && (backToKw pos (keywordEach r env)).all (·.1.isSome)) = true
      rw [a]; rfl
    · show x :: (backToKw pos (keywordEach r env)).filterMap (·.1) = _
      rw [b]; rfl
    · show (false || (backToKw pos (keywordEach r env)).any (·.1.isNone)) = false
      rw [c]; rfl
    · simp [d]
theorem call_ok (Xo : XOk T Φ Gs k S X) (hK : G.K = X.K) {f : Nat} {as : Cs} {es : List Expr} {kws : List Keyword} {x : Str} {pp pos : Pos} {df : Df} (hf : T f = some df) (hx : x = df.name) (hg : S.gl x = true) (hc : chkAs T Gs S M df.ms as (es ++ kwV kws) = true) (hnp : es.length = df.np) (hkn : kwN kws (df.N.drop df.np) (df.ms.length - df.np) = true) (hn : (oVars df.ms as).Nodup)
    (hbo : ∀ i ∈ bVars df.ms as, i ∉ oVars df.ms as) (hne : es ≠ []) (hA : ArgsE T Φ G M X (es ++ kwV kws) as) : PE X (.Call (.Name x pp) es kws pos) (tE T Φ G M (.call f as)) := by
  obtain ⟨g1, g2, g3⟩ := Xo.gl hg
  obtain ⟨a, fd, ps, m1, m2, m3, ⟨m4, m5⟩, F⟩ := Xo.fns f df hf
  have hlen := hA.len
  rw [List.length_append, kwV_len] at hlen
  have hns : ∀ e ∈ es, ns e = true := fun e he => by
    obtain ⟨i, hi, ee⟩ := List.getElem_of_mem he
    obtain ⟨c, hcc⟩ : ∃ c, (lstC as)[i]? = some c := ⟨(lstC as)[i]'(by omega), List.getElem?_eq_getElem _⟩
    exact (hA.get i e c (by rw [List.getElem?_append_left hi, List.getElem?_eq_getElem hi, ee]) hcc).1
  obtain ⟨k1, k2, k3, k4⟩ := kwN_ok (pos := pos) (env := X.env) hkn
  have hdrop : ps.drop df.np = (df.N.drop df.np).take (df.ms.length - df.np) := by rw [m5, List.drop_take]
  have hPA : PA X es (tV T Φ G M ((lstC as).take es.length)) := tV_PA (by simp; omega) fun i e c a b => by
    have hi := (List.getElem?_eq_some_iff.mp a).1
    rw [List.getElem?_take_of_lt hi] at b
    exact hA.get i e c (by rw [List.getElem?_append_left hi]; exact a) b
  have hPK : PK X kws (tV T Φ G M ((lstC as).drop es.length)) := tV_PK (by simp; omega) fun i q c a b => by
    rw [List.getElem?_drop] at b
    exact (hA.get (es.length + i) q.value c (by rw [List.getElem?_append_right (by omega), Nat.add_sub_cancel_left]; exact kwV_get a) b).2
  cases es with
  | nil => exact absurd rfl hne
  | cons e0 es =>
    have hst : ∀ {l : List Expr} {env : Env}, (∀ e ∈ l, ns e = true) → (backTo pos (starEach l env)).any (·.1) = false := by
      intro l env
      induction l with
      | nil => intro _; rfl
      | cons b l ih =>
        intro h
        rw [star_ns (h b List.mem_cons_self)]
        show (false || (backTo pos (starEach l env)).any (·.1)) = false
        rw [ih fun e he => h e (List.mem_cons_of_mem _ he)]; rfl
    refine (pe_gk F Xo.gd Xo.room g1 (by rw [hx]; exact m1) m2 m3 pass0 hPA hPK k1 (by rw [hdrop]; exact k2) g2 (star_ns (hns e0 List.mem_cons_self)) (by rw [hst hns, k3]; rfl)).imp fun σ H Q q => ?_
    obtain ⟨ε, d, ε', R, hd, fq⟩ := q
    obtain ⟨ds, ε1, ds', df', os, h1, h2, h3, h4, h5, h6⟩ := den_call hd
    rw [hf] at h3
    cases h3
    have hfr : frC T (.call f as) = df.fr := by simp [frC, hf]
    rw [hfr] at fq
    have core := as_tV (call_core (es := e0 :: es ++ kwV kws) Xo hK hf hc hn hbo R h1 h2 h4 h5 h6 fq)
    have e : lstC as = (lstC as).take (e0 :: es).length ++ (lstC as).drop (e0 :: es).length := (List.take_append_drop _ _).symm
    rw [e] at core
    refine tV.mono (tV_split core) fun vs H1 h1 => tV.mono h1 fun zs H2 ⟨l1, l2, q⟩ => ⟨?_, ?_, by rw [List.append_nil] at q; exact q⟩
    · rw [l1, ← hnp]; simp only [List.length_take]; omega
    · rw [l2, hdrop, ← k4]; simp only [List.length_drop]; omega
end
end VS

set_option maxHeartbeats 400000
/-! V8: what is walked; loops' states. -/
namespace VS
open PySem PySem.Spec PyProof.Rows L2

def OwnO (M : List Md) (σ : L2.St) : AP := fun b => ∃ i, md M i = .O ∧ At σ i b
def Keeps (W : AP) (H1 H : Hp) : Prop := ∀ b o, ¬ W b → H1 b = some o → H b = some o
/-- J walks the data ds, as it stood at H1, in every heap that keeps all but W -/
structure IterOk (K : PySem.W.Frag) (W F : AP) (H1 : Hp) (ds : List D) (J : It) : Prop where
  go : ∀ i H, Keeps W H1 H → i < ds.length → J.go i H
  stop : ∀ i H, Keeps W H1 H → ds.length ≤ i → J.stop i H
  yld : ∀ (i : Nat) (H : Hp) (x : V) (H' : Hp) (Fi : AP), i < ds.length → Keeps W H1 H → (∀ b, Fi b → H1 b ≠ none → F b) → Taken H Fi → J.yld i H x H' → ∃ d, ds[i]? = some d ∧ Same H H' ∧ RD K H' Fi x d

section
variable {K : PySem.W.Frag} {W F : AP} {H1 : Hp} {ds : List D}
theorem get_of_lt {α : Type} {l : List α} {i : Nat} (h : i < l.length) : ∃ x, l[i]? = some x := ⟨l[i], List.getElem?_eq_getElem h⟩
theorem iter_lst {a : Addr} {xs : List V} (hs : ∀ H, Keeps W H1 H → SqL K H a xs) (hr : RDs K H1 F xs ds) (hw : ∀ b, W b → F b) : IterOk K W F H1 ds (Itl K a) where
  go := fun i H k h => by
    obtain ⟨x, e⟩ := get_of_lt (l := xs) (i := i) (by rw [hr.length]; exact h)
    exact ⟨xs, x, hs H k, e⟩
  stop := fun i H k h => ⟨xs, hs H k, by rw [hr.length]; exact h⟩
  yld := fun i H x H' Fi hi k hF hT ⟨e, y⟩ => by
    subst e
    obtain ⟨d, h1, h2⟩ := hr.getV (y xs (hs _ k))
    exact ⟨d, h1, Same.refl _, h2.go hF fun b o f e => k b o (fun z => f (hw b z)) e⟩
theorem iter_tup {a : Addr} {xs : List V} (hs : ∀ H, Keeps W H1 H → SqT K H a xs) (hr : RDs K H1 F xs ds) (hw : ∀ b, W b → F b) : IterOk K W F H1 ds (Itt K a) where
  go := fun i H k h => by
    obtain ⟨x, e⟩ := get_of_lt (l := xs) (i := i) (by rw [hr.length]; exact h)
    exact ⟨xs, x, hs H k, e⟩
  stop := fun i H k h => ⟨xs, hs H k, by rw [hr.length]; exact h⟩
  yld := fun i H x H' Fi hi k hF hT ⟨e, y⟩ => by
    subst e
    obtain ⟨d, h1, h2⟩ := hr.getV (y xs (hs _ k))
    exact ⟨d, h1, Same.refl _, h2.go hF fun b o f e => k b o (fun z => f (hw b z)) e⟩
theorem rngD_get : ∀ (n : Nat) (lo : Int) (i : Nat), i < n → (rngD lo n)[i]? = some (.int (lo + i))
  | n + 1, lo, 0, _ => by simp [rngD]
  | n + 1, lo, i + 1, h => by
    have := rngD_get n (lo + 1) i (by omega)
    simp only [rngD, List.getElem?_cons_succ, this]
    congr 2
    omega
theorem rngD_length : ∀ (n : Nat) (lo : Int), (rngD lo n).length = n
  | 0, _ => rfl
  | n + 1, lo => by simp [rngD, rngD_length n]
theorem iter_rng {lo : Int} {n : Nat} : IterOk K W F H1 (rngD lo n) (Itr lo n) where
  go := fun i H _ h => by rw [rngD_length] at h; exact h
  stop := fun i H _ h => by rw [rngD_length] at h; exact h
  yld := fun i H x H' Fi hi k hF hT ⟨e, y⟩ => by
    subst e y
    rw [rngD_length] at hi
    exact ⟨_, rngD_get n lo i hi, Same.refl _, .int _⟩
theorem enumD_get : ∀ (ds : List D) (k i : Nat), (enumD k ds)[i]? = (ds[i]?).map fun d => .tup [.int ((k + i : Nat) : Int), d]
  | [], k, i => by simp [enumD]
  | d :: ds, k, 0 => by simp [enumD]
  | d :: ds, k, i + 1 => by
    simp only [enumD, List.getElem?_cons_succ, enumD_get ds (k + 1) i]
    congr 1
    funext d
    congr 4
    omega
theorem enumD_length : ∀ (ds : List D) (k : Nat), (enumD k ds).length = ds.length
  | [], _ => rfl
  | _ :: ds, k => by simp [enumD, enumD_length ds]
theorem iter_enum {a : Addr} {xs : List V} (hs : ∀ H, Keeps W H1 H → SqL K H a xs) (hr : RDs K H1 F xs ds) (hw : ∀ b, W b → F b) : IterOk K W F H1 (enumD 0 ds) (Ite K a) where
  go := fun i H k h => by
    rw [enumD_length] at h
    obtain ⟨x, e⟩ := get_of_lt (l := xs) (i := i) (by rw [hr.length]; exact h)
    exact ⟨xs, x, hs H k, e⟩
  stop := fun i H k h => by
    rw [enumD_length] at h
    exact ⟨xs, hs H k, by rw [hr.length]; exact h⟩
  yld := fun i H x H' Fi hi k hF hT ⟨p, y, e1, hp, e2, e3⟩ => by
    subst e1 e2
    obtain ⟨d, h1, h2⟩ := hr.getV (e3 xs (hs _ k))
    refine ⟨.tup [.int (i : Nat), d], by rw [enumD_get, h1]; simp, Same.upd hp, .tup (fun z => hT p z hp) upd_same (.cons (.int _) (.cons ?_ .nil))⟩
    exact (h2.go hF fun b o f e => k b o (fun z => f (hw b z)) e).mono fun b o _ e => Same.upd hp b o e
theorem zipD_get : ∀ (xs ys : List D) (i : Nat), (zipD xs ys)[i]? = match xs[i]?, ys[i]? with | some x, some y => some (.tup [x, y]) | _, _ => none
  | [], ys, i => by simp [zipD]
  | x :: xs, [], i => by
    simp only [zipD]
    cases h : (x :: xs)[i]? <;> simp
  | x :: xs, y :: ys, 0 => by simp [zipD]
  | x :: xs, y :: ys, i + 1 => by
    simp only [zipD, List.getElem?_cons_succ]
    exact zipD_get xs ys i
theorem zipD_length : ∀ (xs ys : List D), (zipD xs ys).length = min xs.length ys.length
  | [], ys => by simp [zipD]
  | x :: xs, [] => by simp [zipD]
  | x :: xs, y :: ys => by simp [zipD, zipD_length xs ys]
theorem iter_zip {a b : Addr} {xs ys : List V} {es : List D} (hs : ∀ H, Keeps W H1 H → SqL K H a xs) (hs2 : ∀ H, Keeps W H1 H → SqL K H b ys) (hr : RDs K H1 F xs ds) (hr2 : RDs K H1 F ys es) (hw : ∀ b, W b → F b) : IterOk K W F H1 (zipD ds es) (Itz K a b) where
  go := fun i H k h => by
    rw [zipD_length] at h
    obtain ⟨x, e⟩ := get_of_lt (l := xs) (i := i) (by rw [hr.length]; omega)
    obtain ⟨y, e2⟩ := get_of_lt (l := ys) (i := i) (by rw [hr2.length]; omega)
    exact ⟨xs, ys, x, y, hs H k, hs2 H k, e, e2⟩
  stop := fun i H k h => by
    rw [zipD_length] at h
    exact ⟨xs, ys, hs H k, hs2 H k, by rw [hr.length, hr2.length]; omega⟩
  yld := fun i H x H' Fi hi k hF hT ⟨p, y, z, e1, hp, e2, e3, e4⟩ => by
    subst e1 e2
    obtain ⟨d, h1, h2⟩ := hr.getV (e3 xs (hs _ k))
    obtain ⟨e, h3, h4⟩ := hr2.getV (e4 ys (hs2 _ k))
    have up : ∀ b o, ¬ F b → H1 b = some o → H b = some o := fun b o f e => k b o (fun z => f (hw b z)) e
    refine ⟨.tup [d, e], by rw [zipD_get, h1, h3], Same.upd hp, .tup (fun z => hT p z hp) upd_same (.cons ?_ (.cons ?_ .nil))⟩
    · exact (h2.go hF up).mono fun b o _ e => Same.upd hp b o e
    · exact (h4.go hF up).mono fun b o _ e => Same.upd hp b o e
end

/-! ### locks -/
theorem md_lock {M : List Md} : ∀ {li : List Nat} {j : Nat}, md (lockM M li) j = if j ∈ li ∧ md M j = .O then .L else md M j
  | [], j => by simp [lockM]
  | i :: r, j => by
    have ih := fun j => md_lock (M := M) (li := r) (j := j)
    have hlen : ∀ {m : List Md} {i : Nat}, md m i = .O → i < m.length := fun {m i} h => by
      unfold md at h
      cases q : m[i]? with
      | none => rw [q] at h; cases h
      | some x => exact (List.getElem?_eq_some_iff.mp q).1
    unfold lockM
    by_cases hi : md (lockM M r) i = .O
    · rw [if_pos hi, md_set (hlen hi)]
      rw [ih] at hi
      by_cases e : i = j
      · subst e
        rw [if_pos rfl]
        by_cases q : i ∈ r ∧ md M i = .O
        · rw [if_pos q] at hi; cases hi
        · rw [if_neg q] at hi
          rw [if_pos ⟨List.mem_cons_self, hi⟩]
      · rw [if_neg e, ih]
        have : (j ∈ i :: r ∧ md M j = .O) ↔ (j ∈ r ∧ md M j = .O) := by
          constructor
          · rintro ⟨h1, h2⟩
            rcases List.mem_cons.mp h1 with z | z
            · exact absurd z.symm e
            · exact ⟨z, h2⟩
          · rintro ⟨h1, h2⟩; exact ⟨List.mem_cons_of_mem _ h1, h2⟩
        simp only [this]
    · rw [if_neg hi, ih]
      rw [ih] at hi
      by_cases e : i = j
      · subst e
        by_cases q : i ∈ r ∧ md M i = .O
        · rw [if_pos q, if_pos ⟨List.mem_cons_of_mem _ q.1, q.2⟩]
        · rw [if_neg q] at hi ⊢
          rw [if_neg fun z => hi z.2]
      · have : (j ∈ i :: r ∧ md M j = .O) ↔ (j ∈ r ∧ md M j = .O) := by
          constructor
          · rintro ⟨h1, h2⟩
            rcases List.mem_cons.mp h1 with z | z
            · exact absurd z.symm e
            · exact ⟨z, h2⟩
          · rintro ⟨h1, h2⟩; exact ⟨List.mem_cons_of_mem _ h1, h2⟩
        simp only [this]
theorem lockM_length {M : List Md} : ∀ {li : List Nat}, (lockM M li).length = M.length
  | [] => rfl
  | i :: r => by unfold lockM; split <;> simp [lockM_length]
theorem own_lock {M : List Md} {li : List Nat} {σ : L2.St} {i : Nat} {a : Addr} : OwnAt (lockM M li) σ i a ↔ OwnAt M σ i a := by
  unfold OwnAt
  rw [md_lock]
  by_cases q : i ∈ li ∧ md M i = .O
  · rw [if_pos q, q.2]; simp
  · rw [if_neg q]
theorem lock_B {M : List Md} {li : List Nat} {i : Nat} : md (lockM M li) i = .B ↔ md M i = .B := by
  rw [md_lock]
  by_cases q : i ∈ li ∧ md M i = .O
  · rw [if_pos q, q.2]; simp
  · rw [if_neg q]
theorem lock_S {M : List Md} {li : List Nat} {i : Nat} : md (lockM M li) i = .S ↔ md M i = .S := by
  rw [md_lock]
  by_cases q : i ∈ li ∧ md M i = .O
  · rw [if_pos q, q.2]; simp
  · rw [if_neg q]
theorem lock_O {M : List Md} {li : List Nat} {i : Nat} (h : md (lockM M li) i = .O) : md M i = .O ∧ i ∉ li := by
  rw [md_lock] at h
  by_cases q : i ∈ li ∧ md M i = .O
  · rw [if_pos q] at h; cases h
  · rw [if_neg q] at h; exact ⟨h, fun z => q ⟨z, h⟩⟩
def lpins (M : List Md) (σ : L2.St) : List Nat → List (Nat × Addr × Md)
  | [] => []
  | i :: r => match σ[i]? with
    | some (some (.ref a)) => if md M i = .O then (i, a, .L) :: lpins M σ r else lpins M σ r
    | _ => lpins M σ r
theorem mem_lpins {M : List Md} {σ : L2.St} {p : Nat × Addr × Md} : ∀ {li : List Nat}, p ∈ lpins M σ li ↔ p.1 ∈ li ∧ md M p.1 = .O ∧ At σ p.1 p.2.1 ∧ p.2.2 = .L
  | [] => by simp [lpins]
  | i :: r => by
    have ih := mem_lpins (M := M) (σ := σ) (p := p) (li := r)
    unfold lpins
    constructor
    · intro h
      split at h
      · rename_i a q
        split at h
        · rename_i hm
          rcases List.mem_cons.mp h with e | h
          · subst e; exact ⟨List.mem_cons_self, hm, q, rfl⟩
          · obtain ⟨a1, a2⟩ := ih.mp h; exact ⟨List.mem_cons_of_mem _ a1, a2⟩
        · obtain ⟨a1, a2⟩ := ih.mp h; exact ⟨List.mem_cons_of_mem _ a1, a2⟩
      · obtain ⟨a1, a2⟩ := ih.mp h; exact ⟨List.mem_cons_of_mem _ a1, a2⟩
    · rintro ⟨h1, h2, h3, h4⟩
      rcases List.mem_cons.mp h1 with e | h1
      · have h3' : σ[i]? = some (some (.ref p.2.1)) := by rw [← e]; exact h3
        rw [h3', ← e]
        simp only [h2, if_true]
        refine List.mem_cons.mpr (.inl ?_)
        obtain ⟨x, y, z⟩ := p
        simp at e h4
        subst e h4
        rfl
      · have := ih.mpr ⟨h1, h2, h3, h4⟩
        split
        · split
          · exact List.mem_cons_of_mem _ this
          · exact this
        · exact this
open Classical in
/-- the ghost within a loop: what stands now is kept, but for the own things -/
noncomputable def Gh.loop (G : Gh) (M : List Md) (li : List Nat) (σ : L2.St) (H : Hp) : Gh :=
  { G with H0 := fun b => if OwnO (lockM M li) σ b then G.H0 b else H b, pin := lpins M σ li ++ G.pin.filter fun p => !(li.contains p.1 && decide (md M p.1 = .O)) }
section
variable {G : Gh} {M : List Md} {ε ε' : Ev} {σ σ' : L2.St} {H H' : Hp} {li : List Nat}
theorem forb_loop : Forb (G.loop M li σ H) (lockM M li) σ' = Forb G M σ' := by
  funext a
  apply propext
  unfold Forb
  simp only [own_lock]
  rfl
theorem loop_io {a : Addr} (h : (G.loop M li σ H).ioA a) : G.ioA a ∧ ∃ p ∈ G.pin, p.2.2 = .O ∧ p.2.1 = a ∧ ¬ (p.1 ∈ li ∧ md M p.1 = .O) := by
  obtain ⟨p, hp, h1, h2⟩ := h
  rcases List.mem_append.mp hp with hp | hp
  · obtain ⟨_, _, _, h3⟩ := mem_lpins.mp hp
    rw [h1] at h3; cases h3
  · obtain ⟨h3, h4⟩ := List.mem_filter.mp hp
    refine ⟨⟨p, h3, h1, h2⟩, p, h3, h1, h2, fun z => ?_⟩
    simp only [Bool.not_eq_true', Bool.and_eq_false_iff, decide_eq_false_iff_not] at h4
    rcases h4 with h4 | h4
    · have := List.contains_iff_mem.mpr z.1
      rw [h4] at this; cases this
    · exact h4 z.2
theorem Rel.enter (R : Rel G M ε σ H) (li : List Nat) : Rel (G.loop M li σ H) (lockM M li) ε σ H where
  len := R.len
  ml := by rw [lockM_length]; exact R.ml
  slot := fun i d e => by
    obtain ⟨v, h1, h2, h3⟩ := R.slot i d e
    refine ⟨v, h1, fun hS => ?_, ?_⟩
    · rw [forb_loop]; exact h2 (lock_S.mp hS)
    · rw [forb_loop]; exact h3
  inj := fun i j a h1 h2 => R.inj i j a (own_lock.mp h1) (own_lock.mp h2)
  bor := fun i j a d h1 h2 h3 h4 h5 => R.bor i j a d (lock_B.mp h1) h2 h3 h4 (own_lock.mp h5)
  balloc := fun i a d h1 h2 h3 h4 => R.balloc i a d (lock_B.mp h1) h2 h3 h4
  fresh := fun i a h1 h2 => by
    have ho : OwnO (lockM M li) σ a := ⟨i, h1, h2⟩
    obtain ⟨m1, n1⟩ := lock_O h1
    have e : (G.loop M li σ H).H0 a = G.H0 a := if_pos ho
    rw [e]
    rcases R.fresh i a m1 h2 with z | ⟨p, hp, e1, e2⟩
    · exact .inl z
    · refine .inr ⟨p, List.mem_append_right _ (List.mem_filter.mpr ⟨hp, ?_⟩), e1, e2⟩
      obtain ⟨g1, g2⟩ := R.ios p hp
      rw [e2] at g2
      rw [e1] at g1
      have := R.inj i p.1 a ⟨.inl m1, h2⟩ ⟨.inl g1, g2⟩
      subst this
      have : li.contains p.1 = false := by
        cases q : li.contains p.1 with
        | false => rfl
        | true => exact absurd (List.contains_iff_mem.mp q) n1
      rw [this]; rfl
  alloc := fun a f => by rw [forb_loop] at f; exact R.alloc a f
  frame := fun b o n e => by
    by_cases q : OwnO (lockM M li) σ b
    · have e' : (G.loop M li σ H).H0 b = G.H0 b := if_pos q
      rw [e'] at e
      obtain ⟨i, h1, h2⟩ := q
      obtain ⟨m1, n1⟩ := lock_O h1
      rcases R.fresh i b m1 h2 with z | z
      · rw [z] at e; cases e
      · refine absurd ?_ n
        obtain ⟨p, hp, e1, e2⟩ := z
        refine ⟨p, List.mem_append_right _ (List.mem_filter.mpr ⟨hp, ?_⟩), e1, e2⟩
        obtain ⟨g1, g2⟩ := R.ios p hp
        rw [e2] at g2
        rw [e1] at g1
        have := R.inj i p.1 b ⟨.inl m1, h2⟩ ⟨.inl g1, g2⟩
        subst this
        have : li.contains p.1 = false := by
          cases q : li.contains p.1 with
          | false => rfl
          | true => exact absurd (List.contains_iff_mem.mp q) n1
        rw [this]; rfl
    · have e' : (G.loop M li σ H).H0 b = H b := if_neg q
      rw [e'] at e; exact e
  ios := fun p hp => by
    rcases List.mem_append.mp hp with hp | hp
    · obtain ⟨h1, h2, h3, h4⟩ := mem_lpins.mp hp
      refine ⟨?_, h3⟩
      rw [md_lock, if_pos ⟨h1, h2⟩, h4]
    · obtain ⟨h1, h2⟩ := List.mem_filter.mp hp
      obtain ⟨g1, g2⟩ := R.ios p h1
      refine ⟨?_, g2⟩
      rw [md_lock, if_neg, g1]
      rintro ⟨z1, z2⟩
      simp [List.contains_iff_mem.mpr z1, z2] at h2
      exact h2 z1
  lp := fun i a h1 h2 => by
    by_cases q : i ∈ li ∧ md M i = .O
    · exact ⟨(i, a, .L), List.mem_append_left _ (mem_lpins.mpr ⟨q.1, q.2, h2, rfl⟩), rfl⟩
    · rw [md_lock, if_neg q] at h1
      obtain ⟨p, hp, e⟩ := R.lp i a h1 h2
      refine ⟨p, List.mem_append_right _ (List.mem_filter.mpr ⟨hp, ?_⟩), e⟩
      subst e
      rw [h1]; simp
  nob := fun a na j d h1 h2 h3 h4 => R.nob a na j d (lock_B.mp h1) h2 h3 h4
  pm := fun p hp => by
    rcases List.mem_append.mp hp with hp | hp
    · exact .inr (mem_lpins.mp hp).2.2.2
    · exact R.pm p (List.mem_filter.mp hp).1
  nF := fun i a h1 h2 => by
    obtain ⟨m1, n1⟩ := lock_O h1
    rcases R.nF i a m1 h2 with z | ⟨p, hp, e1, e2⟩
    · exact .inl z
    · refine .inr ⟨p, List.mem_append_right _ (List.mem_filter.mpr ⟨hp, ?_⟩), e1, e2⟩
      obtain ⟨g1, g2⟩ := R.ios p hp
      rw [e2] at g2
      rw [e1] at g1
      have := R.inj i p.1 a ⟨.inl m1, h2⟩ ⟨.inl g1, g2⟩
      subst this
      have : li.contains p.1 = false := by
        cases q : li.contains p.1 with
        | false => rfl
        | true => exact absurd (List.contains_iff_mem.mp q) n1
      rw [this]; rfl
/-- behind the loop -/
structure RelB (G : Gh) (M : List Md) (σ : L2.St) (H : Hp) : Prop where
  fresh : ∀ i a, md M i = .O → At σ i a → G.H0 a = none ∨ G.ioA a
  frame : ∀ b o, ¬ G.ioA b → G.H0 b = some o → H b = some o
  ios : ∀ p ∈ G.pin, md M p.1 = p.2.2 ∧ At σ p.1 p.2.1
  pm : ∀ p ∈ G.pin, p.2.2 = .O ∨ p.2.2 = .L
  nF : ∀ i a, md M i = .O → At σ i a → ¬ G.F a ∨ G.ioA a
theorem Rel.b (R : Rel G M ε σ H) : RelB G M σ H := ⟨R.fresh, R.frame, R.ios, R.pm, R.nF⟩
theorem Rel.bp (R : Rel G M ε σ H) {p : Addr} (hp : H p = none) : RelB (G.plus p) M σ H := ⟨R.fresh, R.frame, R.ios, R.pm, fun i a h1 h2 => by
  rcases R.nF i a h1 h2 with z | z
  · refine .inl fun f => ?_
    rcases f with f | f
    · exact R.alloc a (Forb.own (.inl h1) h2) (f ▸ hp)
    · exact z f
  · exact .inr z⟩
theorem RelB.leave (R : RelB G M σ H) (R' : Rel (G.loop M li σ H) (lockM M li) ε' σ' H') : Rel G M ε' σ' H' where
  len := R'.len
  ml := by rw [← R'.ml, lockM_length]
  slot := fun i d e => by
    obtain ⟨v, h1, h2, h3⟩ := R'.slot i d e
    rw [forb_loop] at h2 h3
    exact ⟨v, h1, fun hS => h2 (lock_S.mpr hS), h3⟩
  inj := fun i j a h1 h2 => R'.inj i j a (own_lock.mpr h1) (own_lock.mpr h2)
  bor := fun i j a d h1 h2 h3 h4 h5 => R'.bor i j a d (lock_B.mpr h1) h2 h3 h4 (own_lock.mpr h5)
  balloc := fun i a d h1 h2 h3 h4 => R'.balloc i a d (lock_B.mpr h1) h2 h3 h4
  fresh := fun i a h1 h2 => by
    by_cases q : i ∈ li
    · have hL : md (lockM M li) i = .L := by rw [md_lock, if_pos ⟨q, h1⟩]
      obtain ⟨p, hp, e⟩ := R'.lp i a hL h2
      obtain ⟨g1, g2⟩ := R'.ios p hp
      subst e
      have ea : p.2.1 = a := by
        have : some (some (V.ref p.2.1)) = some (some (V.ref a)) := g2.symm.trans h2
        injection this with this; injection this with this; injection this
      rcases List.mem_append.mp hp with hp | hp
      · obtain ⟨_, _, h3, _⟩ := mem_lpins.mp hp
        rw [ea] at h3
        exact R.fresh p.1 a h1 h3
      · obtain ⟨hp, hf⟩ := List.mem_filter.mp hp
        simp [List.contains_iff_mem.mpr q, h1] at hf
        exact absurd q hf
    · have hO : md (lockM M li) i = .O := by rw [md_lock, if_neg fun z => q z.1]; exact h1
      rcases R'.fresh i a hO h2 with z | z
      · by_cases ho : OwnO (lockM M li) σ a
        · have e' : (G.loop M li σ H).H0 a = G.H0 a := if_pos ho
          rw [e'] at z; exact .inl z
        · have e' : (G.loop M li σ H).H0 a = H a := if_neg ho
          rw [e'] at z
          by_cases hi : G.ioA a
          · exact .inr hi
          · refine .inl ?_
            cases g : G.H0 a with
            | none => rfl
            | some o => rw [R.frame a o hi g] at z; cases z
      · exact .inr (loop_io z).1
  alloc := fun a f => by rw [← forb_loop (li := li) (σ := σ) (H := H)] at f; exact R'.alloc a f
  frame := fun b o n e => by
    refine R'.frame b o (fun z => n (loop_io z).1) ?_
    by_cases q : OwnO (lockM M li) σ b
    · have e' : (G.loop M li σ H).H0 b = G.H0 b := if_pos q
      rw [e']; exact e
    · have e' : (G.loop M li σ H).H0 b = H b := if_neg q
      rw [e']; exact R.frame b o n e
  ios := fun p hp => by
    obtain ⟨g1, g2⟩ := R.ios p hp
    refine ⟨g1, ?_⟩
    by_cases q : p.1 ∈ li ∧ md M p.1 = .O
    · exact (R'.ios (p.1, p.2.1, .L) (List.mem_append_left _ (mem_lpins.mpr ⟨q.1, q.2, g2, rfl⟩))).2
    · refine (R'.ios p (List.mem_append_right _ (List.mem_filter.mpr ⟨hp, ?_⟩))).2
      cases q1 : li.contains p.1 with
      | false => rfl
      | true =>
        have : md M p.1 ≠ .O := fun z => q ⟨List.contains_iff_mem.mp q1, z⟩
        simp [this]
  lp := fun i a h1 h2 => by
    have hL : md (lockM M li) i = .L := by rw [md_lock, if_neg (by rw [h1]; simp)]; exact h1
    obtain ⟨p, hp, e⟩ := R'.lp i a hL h2
    rcases List.mem_append.mp hp with hp | hp
    · obtain ⟨_, h3, _, _⟩ := mem_lpins.mp hp
      rw [e, h1] at h3; cases h3
    · exact ⟨p, (List.mem_filter.mp hp).1, e⟩
  nob := fun a na j d h1 h2 h3 h4 => R'.nob a na j d (lock_B.mpr h1) h2 h3 h4
  pm := R.pm
  nF := fun i a h1 h2 => by
    by_cases q : i ∈ li
    · have hL : md (lockM M li) i = .L := by rw [md_lock, if_pos ⟨q, h1⟩]
      obtain ⟨p, hp, e⟩ := R'.lp i a hL h2
      obtain ⟨g1, g2⟩ := R'.ios p hp
      subst e
      have ea : p.2.1 = a := by
        have : some (some (V.ref p.2.1)) = some (some (V.ref a)) := g2.symm.trans h2
        injection this with this; injection this with this; injection this
      rcases List.mem_append.mp hp with hp | hp
      · obtain ⟨_, _, h3, _⟩ := mem_lpins.mp hp
        rw [ea] at h3
        exact R.nF p.1 a h1 h3
      · obtain ⟨hp, hf⟩ := List.mem_filter.mp hp
        simp [List.contains_iff_mem.mpr q, h1] at hf
        exact absurd q hf
    · have hO : md (lockM M li) i = .O := by rw [md_lock, if_neg fun z => q z.1]; exact h1
      exact (R'.nF i a hO h2).imp id fun z => (loop_io z).1
/-- within the loop all stays but the own things -/
theorem Rel.keeps (R : Rel (G.loop M li σ H) (lockM M li) ε' σ' H') (R0 : Rel G M ε σ H) : Keeps (OwnO (lockM M li) σ) H H' := fun b o n e => by
  refine R.frame b o (fun z => ?_) ?_
  · obtain ⟨_, p, hp, e1, e2, e3⟩ := loop_io z
    obtain ⟨g1, g2⟩ := R0.ios p hp
    rw [e2] at g2
    refine n ⟨p.1, ?_, g2⟩
    rw [md_lock, if_neg e3, g1, e1]
  · have e' : (G.loop M li σ H).H0 b = H b := if_neg n
    rw [e']; exact e
/-- what is forbidden later was forbidden ahead of the loop, or is new -/
theorem Rel.later (R : Rel (G.loop M li σ H) (lockM M li) ε' σ' H') (R0 : Rel G M ε σ H) {b : Addr} (f : Forb (G.loop M li σ H) (lockM M li) σ' b) (hb : H b ≠ none) : Forb G M σ b := by
  rcases f with f | ⟨i, hm, ha⟩
  · exact .inl f
  · rcases hm with hm | hm
    · rcases R.fresh i b hm ha with z | z
      · by_cases ho : OwnO (lockM M li) σ b
        · obtain ⟨j, h1, h2⟩ := ho
          exact .inr ⟨j, own_lock.mp ⟨.inl h1, h2⟩⟩
        · have e' : (G.loop M li σ H).H0 b = H b := if_neg ho
          rw [e'] at z; exact absurd z hb
      · obtain ⟨⟨p, hp, e1, e2⟩, _⟩ := loop_io z
        obtain ⟨g1, g2⟩ := R0.ios p hp
        rw [e2] at g2
        rw [e1] at g1
        exact .inr ⟨p.1, .inl g1, g2⟩
    · obtain ⟨p, hp, e⟩ := R.lp i b hm ha
      obtain ⟨g1, g2⟩ := R.ios p hp
      subst e
      have ea : p.2.1 = b := by
        have : some (some (V.ref p.2.1)) = some (some (V.ref b)) := g2.symm.trans ha
        injection this with this; injection this with this; injection this
      rcases List.mem_append.mp hp with hp | hp
      · obtain ⟨_, h2, h3, _⟩ := mem_lpins.mp hp
        rw [ea] at h3
        exact .inr ⟨p.1, .inl h2, h3⟩
      · obtain ⟨hp, _⟩ := List.mem_filter.mp hp
        obtain ⟨q1, q2⟩ := R0.ios p hp
        rw [ea] at q2
        have : md M p.1 = .O ∨ md M p.1 = .L := by
          rw [q1]; exact R0.pm p hp
        exact .inr ⟨p.1, this, q2⟩
end
end VS

set_option maxHeartbeats 400000
/-! V9: targets, tests, what is walked, comprehensions; every expression that is a code. -/
namespace VS
open PySem PySem.Spec PyProof.Rows L2

section
variable {T : Tb} {Φ : Ph} {Gs : Gc} {k : Nat} {S : Sc} {X : Cx} {G : Gh} {M : List Md} {c : C} {e a : Expr}
/-! ### targets -/
def Off (is : List Nat) (σ σ' : L2.St) : Prop := σ'.length = σ.length ∧ ∀ j, j ∉ is → σ'[j]? = σ[j]?
def tG (G : Gh) (M : List Md) (g : Tg) : TG := fun v σ H Q => ∃ ε d ε', Rel G M ε σ H ∧ RD G.K H (Forb G M σ) v d ∧ tgD g d ε = some ε' ∧ ∀ σ', Rel G M ε' σ' H → Off (tgV g) σ σ' → (∀ a, Forb G M σ' a ↔ Forb G M σ a) → Q σ' H
theorem XOk.st (Xo : XOk T Φ Gs k S X) {i : Nat} {x : Str} (h : S.st i x = true) : X.N[i]? = some x ∧ L2.Loc X.env.scope x ∧ (X.fn x = true ∨ X.env.scope.names.lookup x = some .local) := by
  simp only [Sc.st, Bool.and_eq_true, Bool.or_eq_true, decide_eq_true_eq] at h
  obtain ⟨⟨h1, h2⟩, _⟩ := h
  refine ⟨by rw [Xo.N]; exact h1, ?_, ?_⟩
  · unfold L2.Loc
    rw [Xo.sc]
    exact h2.imp id And.left
  · rw [Xo.sc, Xo.fn]
    rcases h2 with h2 | h2
    · exact .inr h2
    · exact .inl h2.2
theorem setS_same {i : Nat} (h : md M i = .S) (hl : i < M.length) : M.set i .S = M := by
  refine List.ext_getElem? fun j => ?_
  by_cases q : i = j
  · subst q
    rw [List.getElem?_set_self hl]
    unfold md at h
    rw [List.getElem?_eq_getElem hl] at h ⊢
    simpa using h.symm
  · rw [List.getElem?_set_ne q]
theorem not_pin {ε : Ev} {σ : L2.St} {H : Hp} (R : Rel G M ε σ H) {i : Nat} (h : md M i = .S) : ∀ p ∈ G.pin, p.1 ≠ i := fun p hp z => by
  obtain ⟨g1, _⟩ := R.ios p hp
  rw [z, h] at g1
  rcases R.pm p hp with q | q <;> rw [q] at g1 <;> cases g1
theorem forb_setS {i : Nat} {v : V} {σ : L2.St} (h : md M i = .S) (a : Addr) : Forb G M (σ.set i (some v)) a ↔ Forb G M σ a := by
  have : ∀ j, OwnAt M (σ.set i (some v)) j a ↔ OwnAt M σ j a := fun j => by
    unfold OwnAt At
    by_cases q : i = j
    · subst q; rw [h]; simp
    · rw [List.getElem?_set_ne q]
  unfold Forb
  simp only [this]
theorem tg_nm (Xo : XOk T Φ Gs k S X) {i : Nat} {x : Str} {pos : Pos} (h : S.st i x = true) (hm : md M i = .S) (hl : i < M.length) : PG X (.Name x pos) (tG G M (.nm i)) := by
  obtain ⟨h1, h2, h3⟩ := Xo.st h
  have hN : X.N.Nodup := by rw [Xo.N]; exact Xo.nd
  refine ⟨fun pins s σ H v u Q I r q => (pg_name hN h1 h2 h3).run pins s σ H v u Q I r ?_⟩
  obtain ⟨ε, d, ε', R, o, hd, f⟩ := q
  obtain rfl := Option.some.inj hd
  have := R.setS (v := v) (d := d) (not_pin R hm) hl (by rw [← R.ml]; exact hl) o
  rw [setS_same hm hl] at this
  exact f _ this ⟨by rw [List.length_set], fun j hj => List.getElem?_set_ne (fun z => hj (by simp [tgV, z]))⟩ (forb_setS hm)
theorem Off.trans {is js : List Nat} {σ σ1 σ2 : L2.St} (a : Off is σ σ1) (b : Off js σ1 σ2) : Off (is ++ js) σ σ2 :=
  ⟨b.1.trans a.1, fun j hj => (b.2 j fun z => hj (List.mem_append_right _ z)).trans (a.2 j fun z => hj (List.mem_append_left _ z))⟩
theorem asg_ns {x : Expr} {r : List Expr} {env : Env} (h : ns x = true) : (assignEach (x :: r) env) = (false, assign x env) :: assignEach r env := by
  cases x <;> first | rfl | (simp [ns] at h)
theorem tg_tp (hc : X.calm = true) (hK : G.K = X.K) {g1 g2 : Tg} {x y : Expr} {kk : Nat} {pos : Pos} (hx : ns x = true) (hy : ns y = true) (h1 : PG X x (tG G M g1)) (h2 : PG X y (tG G M g2)) : PG X (.Tuple [x, y] kk pos) (tG G M (.tp g1 g2)) := by
  refine ⟨fun pins s σ H v u Q I r q => (pg_tup (n := 2) hc (pgs_cons h1 (pgs_cons h2 pgs_nil (by rw [asg_ns hy]; rfl)) (by rw [asg_ns hx, asg_ns hy]; rfl)) (by rw [asg_ns hx, asg_ns hy]; rfl) (by rw [asg_ns hx, asg_ns hy]; rfl)).run pins s σ H v u Q I r ?_⟩
  obtain ⟨ε, d, ε', R, o, hd, f⟩ := q
  cases o with
  | @tup a xs ds ff e rr =>
    cases rr with
    | nil => cases hd
    | cons r1 rr =>
      cases rr with
      | nil => cases hd
      | cons r2 rr =>
        cases rr with
        | cons => cases hd
        | nil =>
          obtain ⟨ε1, e1, e2⟩ := Option.bind_eq_some_iff.mp hd
          refine ⟨a, _, rfl, by rw [← hK]; exact .of e, rfl, _, _, rfl, ε, _, ε1, R, r1, e1, fun σ1 R1 o1 f1 => ⟨_, _, rfl, ε1, _, ε', R1, r2.less (fun b z => (f1 b).mp z), e2, fun σ2 R2 o2 f2 => ⟨rfl, ?_⟩⟩⟩
          exact f σ2 R2 (o1.trans o2) fun b => (f2 b).trans (f1 b)
  | _ => cases hd
theorem tg_tp3 (hc : X.calm = true) (hK : G.K = X.K) {g1 g2 g3 : Tg} {x y z : Expr} {kk : Nat} {pos : Pos} (hx : ns x = true) (hy : ns y = true) (hz : ns z = true) (h1 : PG X x (tG G M g1)) (h2 : PG X y (tG G M g2)) (h3 : PG X z (tG G M g3)) :
    PG X (.Tuple [x, y, z] kk pos) (tG G M (.tp3 g1 g2 g3)) := by
  refine ⟨fun pins s σ H v u Q I r q => (pg_tup (n := 3) hc (pgs_cons h1 (pgs_cons h2 (pgs_cons h3 pgs_nil (by rw [asg_ns hz]; rfl)) (by rw [asg_ns hy, asg_ns hz]; rfl)) (by rw [asg_ns hx, asg_ns hy, asg_ns hz]; rfl)) (by rw [asg_ns hx, asg_ns hy, asg_ns hz]; rfl)
    (by rw [asg_ns hx, asg_ns hy, asg_ns hz]; rfl)).run pins s σ H v u Q I r ?_⟩
  obtain ⟨ε, d, ε', R, o, hd, f⟩ := q
  cases o with
  | @tup a xs ds ff e rr =>
    cases rr with
    | nil => cases hd
    | cons r1 rr =>
      cases rr with
      | nil => cases hd
      | cons r2 rr =>
        cases rr with
        | nil => cases hd
        | cons r3 rr =>
          cases rr with
          | cons => cases hd
          | nil =>
            obtain ⟨ε2, e1, e2⟩ := Option.bind_eq_some_iff.mp hd
            obtain ⟨ε1, e3, e4⟩ := Option.bind_eq_some_iff.mp e1
            refine ⟨a, _, rfl, by rw [← hK]; exact .of e, rfl, _, _, rfl, ε, _, ε1, R, r1, e3, fun σ1 R1 o1 f1 => ⟨_, _, rfl, ε1, _, ε2, R1, r2.less (fun b z => (f1 b).mp z), e4, fun σ2 R2 o2 f2 =>
              ⟨_, _, rfl, ε2, _, ε', R2, r3.less (fun b z => (f1 b).mp ((f2 b).mp z)), e2, fun σ3 R3 o3 f3 => ⟨rfl, ?_⟩⟩⟩⟩
            exact f σ3 R3 (by have := (o1.trans o2).trans o3; rw [show tgV (.tp3 g1 g2 g3) = tgV g1 ++ tgV g2 ++ tgV g3 from rfl]; exact this) fun b => (f3 b).trans ((f2 b).trans (f1 b))
  | _ => cases hd
theorem tg_tp4 (hc : X.calm = true) (hK : G.K = X.K) {g1 g2 g3 g4 : Tg} {x y z w : Expr} {kk : Nat} {pos : Pos} (hx : ns x = true) (hy : ns y = true) (hz : ns z = true) (hw : ns w = true) (h1 : PG X x (tG G M g1)) (h2 : PG X y (tG G M g2)) (h3 : PG X z (tG G M g3)) (h4 : PG X w (tG G M g4)) :
    PG X (.Tuple [x, y, z, w] kk pos) (tG G M (.tp4 g1 g2 g3 g4)) := by
  refine ⟨fun pins s σ H v u Q I r q => (pg_tup (n := 4) hc (pgs_cons h1 (pgs_cons h2 (pgs_cons h3 (pgs_cons h4 pgs_nil (by rw [asg_ns hw]; rfl)) (by rw [asg_ns hz, asg_ns hw]; rfl)) (by rw [asg_ns hy, asg_ns hz, asg_ns hw]; rfl)) (by rw [asg_ns hx, asg_ns hy, asg_ns hz, asg_ns hw]; rfl))
    (by rw [asg_ns hx, asg_ns hy, asg_ns hz, asg_ns hw]; rfl) (by rw [asg_ns hx, asg_ns hy, asg_ns hz, asg_ns hw]; rfl)).run pins s σ H v u Q I r ?_⟩
  obtain ⟨ε, d, ε', R, o, hd, f⟩ := q
  cases o with
  | @tup a xs ds ff e rr =>
    cases rr with
    | nil => cases hd
    | cons r1 rr =>
      cases rr with
      | nil => cases hd
      | cons r2 rr =>
        cases rr with
        | nil => cases hd
        | cons r3 rr =>
          cases rr with
          | nil => cases hd
          | cons r4 rr =>
            cases rr with
            | cons => cases hd
            | nil =>
              obtain ⟨ε3, e1, e2⟩ := Option.bind_eq_some_iff.mp hd
              obtain ⟨ε2, e3, e4⟩ := Option.bind_eq_some_iff.mp e1
              obtain ⟨ε1, e5, e6⟩ := Option.bind_eq_some_iff.mp e3
              refine ⟨a, _, rfl, by rw [← hK]; exact .of e, rfl, _, _, rfl, ε, _, ε1, R, r1, e5, fun σ1 R1 o1 f1 => ⟨_, _, rfl, ε1, _, ε2, R1, r2.less (fun b z => (f1 b).mp z), e6, fun σ2 R2 o2 f2 =>
                ⟨_, _, rfl, ε2, _, ε3, R2, r3.less (fun b z => (f1 b).mp ((f2 b).mp z)), e4, fun σ3 R3 o3 f3 => ⟨_, _, rfl, ε3, _, ε', R3, r4.less (fun b z => (f1 b).mp ((f2 b).mp ((f3 b).mp z))), e2, fun σ4 R4 o4 f4 => ⟨rfl, ?_⟩⟩⟩⟩⟩
              exact f σ4 R4 (by have := ((o1.trans o2).trans o3).trans o4; rw [show tgV (.tp4 g1 g2 g3 g4) = tgV g1 ++ tgV g2 ++ tgV g3 ++ tgV g4 from rfl]; exact this) fun b => (f4 b).trans ((f3 b).trans ((f2 b).trans (f1 b)))
  | _ => cases hd
theorem tg_tp5 (hc : X.calm = true) (hK : G.K = X.K) {g1 g2 g3 g4 g5 : Tg} {x y z w u5 : Expr} {kk : Nat} {pos : Pos} (hx : ns x = true) (hy : ns y = true) (hz : ns z = true) (hw : ns w = true) (hu : ns u5 = true) (h1 : PG X x (tG G M g1)) (h2 : PG X y (tG G M g2)) (h3 : PG X z (tG G M g3)) (h4 : PG X w (tG G M g4)) (h5 : PG X u5 (tG G M g5)) :
    PG X (.Tuple [x, y, z, w, u5] kk pos) (tG G M (.tp5 g1 g2 g3 g4 g5)) := by
  refine ⟨fun pins s σ H v u Q I r q => (pg_tup (n := 5) hc (pgs_cons h1 (pgs_cons h2 (pgs_cons h3 (pgs_cons h4 (pgs_cons h5 pgs_nil (by rw [asg_ns hu]; rfl)) (by rw [asg_ns hw, asg_ns hu]; rfl)) (by rw [asg_ns hz, asg_ns hw, asg_ns hu]; rfl)) (by rw [asg_ns hy, asg_ns hz, asg_ns hw, asg_ns hu]; rfl)) (by rw [asg_ns hx, asg_ns hy, asg_ns hz, asg_ns hw, asg_ns hu]; rfl))
    (by rw [asg_ns hx, asg_ns hy, asg_ns hz, asg_ns hw, asg_ns hu]; rfl) (by rw [asg_ns hx, asg_ns hy, asg_ns hz, asg_ns hw, asg_ns hu]; rfl)).run pins s σ H v u Q I r ?_⟩
  obtain ⟨ε, d, ε', R, o, hd, f⟩ := q
  cases o with
  | @tup a xs ds ff e rr =>
    cases rr with
    | nil => cases hd
    | cons r1 rr =>
      cases rr with
      | nil => cases hd
      | cons r2 rr =>
        cases rr with
        | nil => cases hd
        | cons r3 rr =>
          cases rr with
          | nil => cases hd
          | cons r4 rr =>
            cases rr with
            | nil => cases hd
            | cons r5 rr =>
              cases rr with
              | cons => cases hd
              | nil =>
                obtain ⟨ε4, e1, e2⟩ := Option.bind_eq_some_iff.mp hd
                obtain ⟨ε3, e3, e4⟩ := Option.bind_eq_some_iff.mp e1
                obtain ⟨ε2, e5, e6⟩ := Option.bind_eq_some_iff.mp e3
                obtain ⟨ε1, e7, e8⟩ := Option.bind_eq_some_iff.mp e5
                refine ⟨a, _, rfl, by rw [← hK]; exact .of e, rfl, _, _, rfl, ε, _, ε1, R, r1, e7, fun σ1 R1 o1 f1 => ⟨_, _, rfl, ε1, _, ε2, R1, r2.less (fun b z => (f1 b).mp z), e8, fun σ2 R2 o2 f2 =>
                  ⟨_, _, rfl, ε2, _, ε3, R2, r3.less (fun b z => (f1 b).mp ((f2 b).mp z)), e6, fun σ3 R3 o3 f3 => ⟨_, _, rfl, ε3, _, ε4, R3, r4.less (fun b z => (f1 b).mp ((f2 b).mp ((f3 b).mp z))), e4, fun σ4 R4 o4 f4 =>
                    ⟨_, _, rfl, ε4, _, ε', R4, r5.less (fun b z => (f1 b).mp ((f2 b).mp ((f3 b).mp ((f4 b).mp z)))), e2, fun σ5 R5 o5 f5 => ⟨rfl, ?_⟩⟩⟩⟩⟩⟩
                exact f σ5 R5 (by have := (((o1.trans o2).trans o3).trans o4).trans o5; rw [show tgV (.tp5 g1 g2 g3 g4 g5) = tgV g1 ++ tgV g2 ++ tgV g3 ++ tgV g4 ++ tgV g5 from rfl]; exact this) fun b => (f5 b).trans ((f4 b).trans ((f3 b).trans ((f2 b).trans (f1 b))))
  | _ => cases hd
theorem tg_ok (Xo : XOk T Φ Gs k S X) (hK : G.K = X.K) : ∀ {g : Tg} {tg : Expr}, chkTg S M g tg = true → PG X tg (tG G M g)
  | .nm i, tg, h => by
    cases tg <;> first | (simp [chkTg] at h; done) | skip
    simp only [chkTg, Bool.and_eq_true, decide_eq_true_eq] at h
    exact tg_nm Xo h.1.1 h.1.2 h.2
  | .tp a b, tg, h => by
    unfold chkTg at h
    split at h <;> first | (cases h; done) | skip
    all_goals first | (rename_i q; cases q; done) | skip
    · rename_i a' b' x y kk pos q
      cases q
      simp only [Bool.and_eq_true] at h
      exact tg_tp Xo.calm hK h.1.2 h.2 (tg_ok Xo hK h.1.1.1) (tg_ok Xo hK h.1.1.2)
  | .tp3 a b c, tg, h => by
    unfold chkTg at h
    split at h <;> first | (cases h; done) | skip
    all_goals first | (rename_i q; cases q; done) | skip
    · rename_i a' b' c' x y z kk pos q
      cases q
      simp only [Bool.and_eq_true] at h
      exact tg_tp3 Xo.calm hK h.1.1.2 h.1.2 h.2 (tg_ok Xo hK h.1.1.1.1.1) (tg_ok Xo hK h.1.1.1.1.2) (tg_ok Xo hK h.1.1.1.2)
  | .tp4 a b c d, tg, h => by
    unfold chkTg at h
    split at h <;> first | (cases h; done) | skip
    all_goals first | (rename_i q; cases q; done) | skip
    · rename_i a' b' c' d' x y z w kk pos q
      cases q
      simp only [Bool.and_eq_true] at h
      obtain ⟨⟨⟨⟨h1, h2⟩, h3⟩, h4⟩, ⟨⟨n1, n2⟩, n3⟩, n4⟩ := h
      exact tg_tp4 Xo.calm hK n1 n2 n3 n4 (tg_ok Xo hK h1) (tg_ok Xo hK h2) (tg_ok Xo hK h3) (tg_ok Xo hK h4)
  | .tp5 a b c d e, tg, h => by
    unfold chkTg at h
    split at h <;> first | (cases h; done) | skip
    all_goals first | (rename_i q; cases q; done) | skip
    · rename_i a' b' c' d' e' x y z w v kk pos q
      cases q
      simp only [Bool.and_eq_true] at h
      obtain ⟨⟨⟨⟨⟨h1, h2⟩, h3⟩, h4⟩, h5⟩, ⟨⟨⟨n1, n2⟩, n3⟩, n4⟩, n5⟩ := h
      exact tg_tp5 Xo.calm hK n1 n2 n3 n4 n5 (tg_ok Xo hK h1) (tg_ok Xo hK h2) (tg_ok Xo hK h3) (tg_ok Xo hK h4) (tg_ok Xo hK h5)
/-! ### tests -/
theorem tru_of {K : PySem.W.Frag} {H : Hp} {F : AP} {v : V} {d : D} (h : RDT K H F v d) {b : Bool} (e : truth d = some b) : TruV K v H b := by
  cases d with
  | non => have := h.non; subst this; cases e; rfl
  | bl c => have := h.bl; subst this; cases e; rfl
  | int c => have := h.int; subst this; cases e; rfl
  | str c =>
    have := h.str; subst this
    simp only [truth] at e
    split at e
    · rename_i hl
      refine ⟨Nat.le_trans hl lim_le, ?_⟩
      have := Option.some.inj e
      rw [← this]
      cases hz : c.length with
      | zero => rfl
      | succ n =>
        have : ((n + 1 : Nat) : Int) ≠ 0 := by omega
        rw [bne_iff_ne.mpr this]; rfl
    · cases e
  | lst ds =>
    obtain ⟨a, xs, rfl, e1, r⟩ := h.list
    refine .inl ⟨xs, .of e1, ?_⟩
    have := Option.some.inj e
    rw [← this]
    have := r.length
    cases xs <;> cases ds <;> simp at this <;> rfl
  | tup ds =>
    obtain ⟨a, xs, rfl, e1, r⟩ := h.tuple
    refine .inr (.inl ⟨xs, .of e1, ?_⟩)
    have := Option.some.inj e
    rw [← this]
    have := r.length
    cases xs <;> cases ds <;> simp at this <;> rfl
  | _ => cases e
/-- tests that are values -/
def plainT : Expr → Bool
  | .BoolOp _ _ _ => false
  | .UnaryOp .Not _ _ => false
  | .IfExp _ _ _ _ => false
  | .Compare _ _ _ _ => false
  | _ => true
theorem isTrue_eq {env : Env} (h : plainT e = true) : ∀ whole, isTrue e env whole = (do let v ← whole; standAt e.pos; holding [v] (truthy v)) := by
  intro whole
  cases e <;> first | rfl | (simp [plainT] at h; done) | skip
  rename_i op x pos
  cases op <;> first | rfl | (simp [plainT] at h; done)
theorem tT_val (hK : G.K = X.K) (hp : plainT e = true) (hd : ∀ ε b ε', denT T Φ c ε = some (b, ε') → ∃ r, denE T Φ c ε = some (r, ε') ∧ truth r = some b) (h : PE X e (tE T Φ G M c)) : PT X e (tT T Φ G M c) := by
  refine (pt_truth h (isTrue_eq hp)).imp fun σ H Q q => ?_
  obtain ⟨ε, b, ε', R, h1, f⟩ := q
  obtain ⟨r, h2, h3⟩ := hd _ _ _ h1
  exact ⟨ε, r, ε', R, h2, fun v H1 R1 x1 o => ⟨b, by rw [← hK]; exact tru_of (.of o.rd) h3, f H1 R1 x1⟩⟩
theorem tT_var (Xo : XOk T Φ Gs k S X) (hK : G.K = X.K) {i : Nat} {x : Str} {pos : Pos} (h : S.nm i x = true) : PT X (.Name x pos) (tT T Φ G M (.var i)) := by
  refine (pt_truth (sb_var (T := T) (Φ := Φ) (G := G) (M := M) Xo h) (isTrue_eq rfl)).imp fun σ H Q q => ?_
  obtain ⟨ε, b, ε', R, h1, f⟩ := q
  obtain ⟨d, h2, h3⟩ := Option.bind_eq_some_iff.mp (show (look ε i).bind (fun d => (truth d).map fun c => (c, ε)) = some (b, ε') from h1)
  obtain ⟨b', h4, h5⟩ := Option.map_eq_some_iff.mp h3
  injection h5 with e1 e2
  subst e1 e2
  exact ⟨ε, d, ε, R, by simp [denE, h2], fun v H1 R1 x1 o _ => ⟨_, by rw [← hK]; exact tru_of o h4, f H1 R1 x1⟩⟩
/-- a test that is a comparison: its value is a truth value -/
theorem tT_cmp (hd : ∀ ε b ε', denT T Φ c ε = some (b, ε') → ∃ r, denE T Φ c ε = some (r, ε') ∧ truth r = some b) (hb : ∀ ε r ε', denE T Φ c ε = some (r, ε') → ∃ b, r = .bl b) {t : TE} (h : PT X e (tTest t)) (hi : ∀ σ H Q, tE T Φ G M c σ H Q → t σ H Q) : PT X e (tT T Φ G M c) := by
  refine h.imp fun σ H Q q => ?_
  obtain ⟨ε, b, ε', R, h1, f⟩ := q
  obtain ⟨r, h2, h3⟩ := hd _ _ _ h1
  obtain ⟨b', rfl⟩ := hb _ _ _ h2
  refine hi σ H _ ⟨ε, _, ε', R, h2, fun v H1 R1 x1 o => ⟨b', o.rd.isbl, ?_⟩⟩
  have : b' = b := Option.some.inj h3
  rw [this]
  exact f H1 R1 x1
theorem denT_p1 {p : P1} (hp : p ≠ .not_) {ε : Ev} {b : Bool} {ε' : Ev} (h : denT T Φ (.p1 p c) ε = some (b, ε')) : ∃ r, denE T Φ (.p1 p c) ε = some (r, ε') ∧ truth r = some b := by
  have h' : (denE T Φ c ε).bind (fun (d, ε1) => (op1 p d).bind fun r => (truth r).map fun c => (c, ε1)) = some (b, ε') := by
    cases p <;> first | exact h | exact absurd rfl hp
  obtain ⟨⟨d, ε1⟩, h1, h2⟩ := Option.bind_eq_some_iff.mp h'
  obtain ⟨r, h3, h4⟩ := Option.bind_eq_some_iff.mp h2
  obtain ⟨b', h5, h6⟩ := Option.map_eq_some_iff.mp h4
  injection h6 with e1 e2
  subst e1 e2
  exact ⟨r, Option.bind_eq_some_iff.mpr ⟨(d, ε1), h1, Option.map_eq_some_iff.mpr ⟨r, h3, rfl⟩⟩, h5⟩
theorem denT_p2 {p : P2} {a : C} {ε : Ev} {b : Bool} {ε' : Ev} (h : denT T Φ (.p2 p c a) ε = some (b, ε')) : ∃ r, denE T Φ (.p2 p c a) ε = some (r, ε') ∧ truth r = some b := by
  obtain ⟨⟨d, ε1⟩, h1, h2⟩ := Option.bind_eq_some_iff.mp (show (denE T Φ c ε).bind (fun (d, ε1) => (denE T Φ a ε1).bind fun (e, ε2) => (lateC c d ε2).bind fun d' => (op2 p d' e).bind fun r => (truth r).map fun c => (c, ε2)) = some (b, ε') from h)
  obtain ⟨⟨d2, ε2⟩, h3, h4⟩ := Option.bind_eq_some_iff.mp h2
  obtain ⟨d', h5, h6⟩ := Option.bind_eq_some_iff.mp h4
  obtain ⟨r, h7, h8⟩ := Option.bind_eq_some_iff.mp h6
  obtain ⟨b', h9, h10⟩ := Option.map_eq_some_iff.mp h8
  injection h10 with e1 e2
  subst e1 e2
  exact ⟨r, Option.bind_eq_some_iff.mpr ⟨(d, ε1), h1, Option.bind_eq_some_iff.mpr ⟨(d2, ε2), h3, Option.bind_eq_some_iff.mpr ⟨d', h5, Option.map_eq_some_iff.mpr ⟨r, h7, rfl⟩⟩⟩⟩, h9⟩
theorem op1_bool {p : P1} (hp : p = .isN ∨ p = .notN) {d r : D} (h : op1 p d = some r) : ∃ b, r = .bl b := by
  rcases hp with rfl | rfl <;> (obtain rfl := Option.some.inj h; exact ⟨_, rfl⟩)
theorem op1_bool' {p : P1} (hp : p = .isTrue_ ∨ p = .isFalse_ ∨ p = .notTrue_ ∨ p = .notFalse_) {d r : D} (h : op1 p d = some r) : ∃ b, r = .bl b := by
  rcases hp with rfl | rfl | rfl | rfl <;> cases d <;> first | (simp only [op1] at h; cases h; done) | (obtain rfl := Option.some.inj h; exact ⟨_, rfl⟩)
theorem p1T_ok (Xo : XOk T Φ Gs k S X) (hK : G.K = X.K) {p : P1} (hp : p ≠ .not_) (h : syn1 S p e = some a) (ha : PE X a (tB T Φ G M c)) : PT X e (tT T Φ G M (.p1 p c)) := by
  by_cases hb : p = .isTrue_ ∨ p = .isFalse_ ∨ p = .notTrue_ ∨ p = .notFalse_
  · skip
    have hbool : ∀ ε r ε', denE T Φ (.p1 p c) ε = some (r, ε') → ∃ b, r = .bl b := fun ε r ε' hd => by
      obtain ⟨⟨d, ε1⟩, h1, h2⟩ := Option.bind_eq_some_iff.mp (show (denE T Φ c ε).bind (fun (d, ε1) => (op1 p d).map fun r => (r, ε1)) = some (r, ε') from hd)
      obtain ⟨r', h3, h4⟩ := Option.map_eq_some_iff.mp h2
      injection h4 with e1 e2
      subst e1
      exact op1_bool' hb h3
    rcases hb with rfl | rfl | rfl | rfl
    · simp only [syn1] at h
      split at h
      · cases h
        refine tT_cmp (fun _ _ _ z => denT_p1 hp z) hbool (pt_cmpR op_isBl ha (pe_bl (b := true)) (nomark _)) fun σ H Q q => (p1_core hK q).mono fun v H1 r => ?_
        obtain ⟨F, d, r', hF, hx, ho, q⟩ := r
        cases d <;> first | (simp only [op1] at ho; cases ho; done) | skip
        rename_i b
        obtain rfl := Option.some.inj ho
        refine ⟨b, true, hx.bl, rfl, ?_⟩
        have := q (.bl b) H1 .bl
        cases b <;> exact this
      · cases h
    · simp only [syn1] at h
      split at h
      · cases h
        refine tT_cmp (fun _ _ _ z => denT_p1 hp z) hbool (pt_cmpR op_isBl ha (pe_bl (b := false)) (nomark _)) fun σ H Q q => (p1_core hK q).mono fun v H1 r => ?_
        obtain ⟨F, d, r', hF, hx, ho, q⟩ := r
        cases d <;> first | (simp only [op1] at ho; cases ho; done) | skip
        rename_i b
        obtain rfl := Option.some.inj ho
        refine ⟨b, false, hx.bl, rfl, ?_⟩
        have := q (.bl (!b)) H1 .bl
        cases b <;> exact this
      · cases h
    · simp only [syn1] at h
      split at h
      · cases h
        refine tT_cmp (fun _ _ _ z => denT_p1 hp z) hbool (pt_cmpR op_notBl ha (pe_bl (b := true)) (nomark _)) fun σ H Q q => (p1_core hK q).mono fun v H1 r => ?_
        obtain ⟨F, d, r', hF, hx, ho, q⟩ := r
        cases d <;> first | (simp only [op1] at ho; cases ho; done) | skip
        rename_i b
        obtain rfl := Option.some.inj ho
        refine ⟨b, true, hx.bl, rfl, ?_⟩
        have := q (.bl (!b)) H1 .bl
        cases b <;> exact this
      · cases h
    · simp only [syn1] at h
      split at h
      · cases h
        refine tT_cmp (fun _ _ _ z => denT_p1 hp z) hbool (pt_cmpR op_notBl ha (pe_bl (b := false)) (nomark _)) fun σ H Q q => (p1_core hK q).mono fun v H1 r => ?_
        obtain ⟨F, d, r', hF, hx, ho, q⟩ := r
        cases d <;> first | (simp only [op1] at ho; cases ho; done) | skip
        rename_i b
        obtain rfl := Option.some.inj ho
        refine ⟨b, false, hx.bl, rfl, ?_⟩
        have := q (.bl b) H1 .bl
        cases b <;> exact this
      · cases h
  by_cases hq : p = .isN ∨ p = .notN
  · have hbool : ∀ ε r ε', denE T Φ (.p1 p c) ε = some (r, ε') → ∃ b, r = .bl b := fun ε r ε' hd => by
      obtain ⟨⟨d, ε1⟩, h1, h2⟩ := Option.bind_eq_some_iff.mp (show (denE T Φ c ε).bind (fun (d, ε1) => (op1 p d).map fun r => (r, ε1)) = some (r, ε') from hd)
      obtain ⟨r', h3, h4⟩ := Option.map_eq_some_iff.mp h2
      injection h4 with e1 e2
      subst e1
      exact op1_bool hq h3
    have hE := p1_ok Xo hK h ha
    rcases hq with rfl | rfl
    · simp only [syn1] at h
      split at h
      · cases h
        refine tT_cmp (fun _ _ _ z => denT_p1 hp z) hbool (pt_cmpR op_isN ha pe_non (nomark _)) fun σ H Q q => (p1_core hK q).mono fun v H1 r => ⟨rfl, ?_⟩
        obtain ⟨F, d, r', hF, hx, ho, q⟩ := r
        obtain rfl := Option.some.inj ho
        have : decide (v = V.non) = isNonD d := by
          by_cases z : v = .non
          · have := hx.nonIff.mp z
            subst this; rw [decide_eq_true z]; rfl
          · rw [decide_eq_false z]
            cases d <;> first | rfl | exact absurd (hx.nonIff.mpr rfl) z
        rw [this]; exact q _ _ .bl
      · cases h
    · simp only [syn1] at h
      split at h
      · cases h
        refine tT_cmp (fun _ _ _ z => denT_p1 hp z) hbool (pt_cmpR op_notN ha pe_non (nomark _)) fun σ H Q q => (p1_core hK q).mono fun v H1 r => ⟨rfl, ?_⟩
        obtain ⟨F, d, r', hF, hx, ho, q⟩ := r
        obtain rfl := Option.some.inj ho
        have : decide (v = V.non) = isNonD d := by
          by_cases z : v = .non
          · have := hx.nonIff.mp z
            subst this; rw [decide_eq_true z]; rfl
          · rw [decide_eq_false z]
            cases d <;> first | rfl | exact absurd (hx.nonIff.mpr rfl) z
        rw [this]; exact q _ _ .bl
      · cases h
  · refine tT_val hK ?_ (fun _ _ _ z => denT_p1 hp z) (p1_ok Xo hK h ha)
    have hcall : ∀ {n}, synC S n e = some a → plainT e = true := fun {n} h => by
      unfold synC at h
      split at h
      · rfl
      · cases h
    cases p <;> first | (simp [syn1, nm1] at h; done) | exact absurd rfl hp | exact absurd (.inl rfl) hq | exact absurd (.inr rfl) hq | exact absurd (.inl rfl) hb | exact absurd (.inr (.inl rfl)) hb | exact absurd (.inr (.inr (.inl rfl))) hb | exact absurd (.inr (.inr (.inr rfl))) hb | exact hcall h | skip
    · simp only [syn1] at h
      split at h
      · rfl
      · cases h
    · simp only [syn1] at h
      split at h
      · rfl
      · cases h
theorem op2_bool {p : P2} {op : CmpOp} (hp : cmpOf p = some op) {d e r : D} (h : op2 p d e = some r) : ∃ b, r = .bl b := by
  cases p <;> simp only [cmpOf] at hp <;> first | (cases hp; done) | skip
  · obtain ⟨b, _, rfl⟩ := Option.map_eq_some_iff.mp (show (eqP d e).map D.bl = some r from h); exact ⟨_, rfl⟩
  · obtain ⟨b, _, rfl⟩ := Option.map_eq_some_iff.mp (show (eqP d e).map (fun c => D.bl (!c)) = some r from h); exact ⟨_, rfl⟩
  all_goals (cases d <;> cases e <;> first | (simp only [op2] at h; cases h; done) | (obtain rfl := Option.some.inj h; exact ⟨_, rfl⟩))
theorem in_rule (Xo : XOk T Φ Gs k S X) {p : P2} {op : CmpOp} (hp : cmpIn p = some op) : OpR X (compareOp op) (r2 p X.K) := by
  have hu : X.A.units + 65 < cLine := by have := Xo.hu; omega
  cases p <;> simp only [cmpIn] at hp <;> first | (cases hp; done) | skip
  · cases hp; exact vo_in hu
  · cases hp; exact vo_nin hu
theorem op2_boolI {p : P2} {op : CmpOp} (hp : cmpIn p = some op) {d e r : D} (h : op2 p d e = some r) : ∃ b, r = .bl b := by
  have l : ∀ (c : Bool) (x : Bool), (if c = true then some (D.bl x) else none) = some r → ∃ b, r = .bl b := fun c x h => by
    split at h
    · exact ⟨x, (Option.some.inj h).symm⟩
    · cases h
  cases p <;> simp only [cmpIn] at hp <;> first | (cases hp; done) | skip
  · cases e with
    | lst xs => exact l _ _ (show (if okEq d && okEq (.lst xs) then some (D.bl (xs.any fun z => PyData.eqv (toP z) (toP d))) else none) = some r by cases d <;> exact h)
    | str z =>
      cases d with
      | str x =>
        have h' : (match x.cps.toList with | [c] => some (D.bl (decide (c ∈ z.cps.toList))) | _ => none) = some r := h
        split at h'
        · exact ⟨_, (Option.some.inj h').symm⟩
        · cases h'
      | _ => cases h
    | _ => cases d <;> cases h
  · cases e with
    | lst xs => exact l _ _ (show (if okEq d && okEq (.lst xs) then some (D.bl (!xs.any fun z => PyData.eqv (toP z) (toP d))) else none) = some r by cases d <;> exact h)
    | _ => cases d <;> cases h
theorem cmp_rule (Xo : XOk T Φ Gs k S X) {p : P2} {op : CmpOp} (hp : cmpOf p = some op) : OpR X (compareOp op) (r2 p X.K) ∧ op ≠ .In ∧ op ≠ .NotIn := by
  have hu : X.A.units + 64 < cLine := by have := Xo.hu; omega
  cases p <;> simp only [cmpOf] at hp <;> first | (cases hp; done) | skip
  · cases hp; exact ⟨vo_eq hu, by decide, by decide⟩
  · cases hp; exact ⟨vo_ne hu, by decide, by decide⟩
  · cases hp; exact ⟨vo_lt, by decide, by decide⟩
  · cases hp; exact ⟨vo_le, by decide, by decide⟩
  · cases hp; exact ⟨vo_gt, by decide, by decide⟩
  · cases hp; exact ⟨vo_ge, by decide, by decide⟩
theorem p2T_ok (Xo : XOk T Φ Gs k S X) (hK : G.K = X.K) {p : P2} {b : C} {x y : Expr} (h : syn2 S p e = some (x, y)) (ha : PE X x (tB T Φ G M c)) (hb : PE X y (tB T Φ G M b)) : PT X e (tT T Φ G M (.p2 p c b)) := by
  have hE := p2_ok Xo hK h ha hb
  unfold syn2 at h
  split at h
  · exact tT_val hK rfl (fun _ _ _ z => denT_p2 z) hE
  · rename_i a1 op b1 pos
    split at h
    · rename_i ho
      cases h
      obtain ⟨hr, n1, n2⟩ := cmp_rule Xo ho
      refine tT_cmp (fun _ _ _ z => denT_p2 z) (fun ε r ε' hd => ?_) (pt_cmpR hr ha hb (nomark _ n1 n2)) fun σ H Q q => p2_core hK q
      obtain ⟨⟨d, ε1⟩, h1, h2⟩ := Option.bind_eq_some_iff.mp (show (denE T Φ c ε).bind (fun (d, ε1) => (denE T Φ b ε1).bind fun (e, ε2) => (lateC c d ε2).bind fun d' => (op2 p d' e).map fun r => (r, ε2)) = some (r, ε') from hd)
      obtain ⟨⟨e, ε2⟩, h3, h4⟩ := Option.bind_eq_some_iff.mp h2
      obtain ⟨d', h5, h6⟩ := Option.bind_eq_some_iff.mp h4
      obtain ⟨r', h7, h8⟩ := Option.map_eq_some_iff.mp h6
      injection h8 with e1 e2
      subst e1
      exact op2_bool ho h7
    · split at h
      · rename_i ho
        obtain ⟨ho, hn⟩ := ho
        cases h
        refine tT_cmp (fun _ _ _ z => denT_p2 z) (fun ε r ε' hd => ?_) (pt_cmpR (in_rule Xo ho) ha hb (ns_mark hn)) fun σ H Q q => p2_core hK q
        obtain ⟨⟨d, ε1⟩, h1, h2⟩ := Option.bind_eq_some_iff.mp (show (denE T Φ c ε).bind (fun (d, ε1) => (denE T Φ b ε1).bind fun (e, ε2) => (lateC c d ε2).bind fun d' => (op2 p d' e).map fun r => (r, ε2)) = some (r, ε') from hd)
        obtain ⟨⟨e, ε2⟩, h3, h4⟩ := Option.bind_eq_some_iff.mp h2
        obtain ⟨d', h5, h6⟩ := Option.bind_eq_some_iff.mp h4
        obtain ⟨r', h7, h8⟩ := Option.map_eq_some_iff.mp h6
        injection h8 with e1 e2
        subst e1
        exact op2_boolI ho h7
      · cases h
  · exact tT_val hK rfl (fun _ _ _ z => denT_p2 z) hE
  · exact tT_val hK rfl (fun _ _ _ z => denT_p2 z) hE
  · cases h
end
end VS

set_option maxHeartbeats 400000
/-! V10: what is walked, comprehensions. -/
namespace VS
open PySem PySem.Spec PyProof.Rows L2

section
variable {T : Tb} {Φ : Ph} {Gs : Gc} {k : Nat} {S : Sc} {X : Cx} {G : Gh} {M : List Md} {c : C} {e a : Expr}
def tI (T : Tb) (Φ : Ph) (G : Gh) (M : List Md) (it : CI) : TI := fun σ H R => ∃ ε ds ε', Rel G M ε σ H ∧ denI T Φ it ε = some (ds, ε') ∧
  ∀ J H1, Rel G M ε' σ H1 → Ext M σ H H1 → IterOk G.K (OwnO (lockM M (lockI it)) σ) (Forb G M σ) H1 ds J → R J H1
theorem pi_or {tg : Expr} {t1 t2 : TI} (h1 : PI X tg e t1) (h2 : PI X tg e t2) : PI X tg e (fun σ H R => t1 σ H R ∨ t2 σ H R) := by
  refine ⟨fun pins s σ H R I h => ?_⟩
  rcases h with h | h
  · exact h1.run pins s σ H R I h
  · exact h2.run pins s σ H R I h
theorem _root_.L2.PI.imp {tg : Expr} {t t' : TI} (h : PI X tg e t) (i : ∀ σ H R, t' σ H R → t σ H R) : PI X tg e t' := ⟨fun pins s σ H R I q => h.run pins s σ H R I (i σ H R q)⟩
theorem ownO_forb {li : List Nat} {σ : L2.St} {b : Addr} (h : OwnO (lockM M li) σ b) : Forb G M σ b := by
  obtain ⟨i, h1, h2⟩ := h
  exact .inr ⟨i, own_lock.mp ⟨.inl h1, h2⟩⟩
/-- a thing that is walked is not among those that the body may change -/
theorem notW {ε : Ev} {σ : L2.St} {H : Hp} {v : V} {d : D} {li : List Nat} (R : Rel G M ε σ H) (hb : BOk c G M σ H v d) {d' : D} (hl : lateC c d ε = some d') (hm : mutD d' = true) {a : Addr} (ev : v = .ref a) (hli : ∀ i, c = .var i → i ∈ li) : ¬ OwnO (lockM M li) σ a := by
  rintro ⟨j, h1, h2⟩
  obtain ⟨m1, n1⟩ := lock_O h1
  by_cases hv : ∃ i, c = .var i
  · obtain ⟨i, rfl⟩ := hv
    have hs : σ[i]? = some (some v) := hb
    have hl' : look ε i = some d' := hl
    have hij : i ≠ j := fun z => n1 (z ▸ hli i rfl)
    have ha : At σ i a := by unfold At; rw [hs, ev]
    cases hmi : md M i with
    | S =>
      obtain ⟨w, b1, b2⟩ := R.varS hl' hmi
      rw [hs] at b1
      have : v = w := Option.some.inj (Option.some.inj b1)
      subst this
      subst ev
      have : ¬ Forb G M σ a := by cases b2 <;> first | assumption | (simp [mutD] at hm; done)
      exact this (.inr ⟨j, .inl m1, h2⟩)
    | B => exact R.bor i j a d' hmi hl' hm ha ⟨.inl m1, h2⟩
    | O => exact hij (R.inj i j a ⟨.inl hmi, ha⟩ ⟨.inl m1, h2⟩)
    | L => exact hij (R.inj i j a ⟨.inr hmi, ha⟩ ⟨.inl m1, h2⟩)
  · have hr : RD G.K H (Forb G M σ) v d := by
      cases c <;> first | exact hb | exact absurd ⟨_, rfl⟩ hv
    have hg : some d = some d' := by
      cases c <;> first | exact hl | exact absurd ⟨_, rfl⟩ hv
    injection hg with hg
    subst hg
    subst ev
    have : ¬ Forb G M σ a := by cases hr <;> first | assumption | (simp [mutD] at hm; done)
    exact this (.inr ⟨j, .inl m1, h2⟩)
theorem keep_l {W : AP} {H1 : Hp} {K : PySem.W.Frag} {a : Addr} {xs : List V} (h : H1 a = some (.lst xs)) (n : ¬ W a) : ∀ H, Keeps W H1 H → SqL K H a xs := fun H k => .of (k a _ n h)
/-- a list that is walked -/
theorem walk_l {ε : Ev} {σ : L2.St} {H : Hp} {v : V} {d : D} {li : List Nat} (R : Rel G M ε σ H) (hb : BOk c G M σ H v d) {xs : List D} (hl : lateC c d ε = some (.lst xs)) (hli : ∀ i, c = .var i → i ∈ li) :
    ∃ a ys, v = .ref a ∧ SqL G.K H a ys ∧ (∀ H', Keeps (OwnO (lockM M li) σ) H H' → SqL G.K H' a ys) ∧ RDs G.K H (Forb G M σ) ys xs := by
  obtain ⟨a, ys, rfl, e1, r⟩ := (hb.late R hl).list
  exact ⟨a, ys, rfl, .of e1, keep_l e1 (notW R hb hl rfl rfl hli), r⟩
theorem pi_seq (Xo : XOk T Φ Gs k S X) (hK : G.K = X.K) {tg : Expr} (ha : PE X e (tB T Φ G M c)) (hli : ∀ i, c = .var i → i ∈ lockI (.seq c)) : PI X tg e (tI T Φ G M (.seq c)) := by
  refine (pi_or (pi_list ha) (pi_tup ha)).imp fun σ H R q => ?_
  obtain ⟨ε, ds, ε', R0, hd, f⟩ := q
  obtain ⟨⟨d, ε1⟩, h1, h2⟩ := Option.bind_eq_some_iff.mp (show (denE T Φ c ε).bind (fun (d, ε1) => (seqOf d).map fun ds => (ds, ε1)) = some (ds, ε') from hd)
  obtain ⟨ds', h3, h4⟩ := Option.map_eq_some_iff.mp h2
  injection h4 with e1 e2
  subst e1 e2
  have lt : ∀ {v : V} {H1 : Hp}, Rel G M ε1 σ H1 → BOk c G M σ H1 v d → lateC c d ε1 = some d := fun {v H1} R1 b => by
    cases c <;> first | rfl | skip
    · rename_i i
      obtain ⟨d', h5, h6⟩ := Option.map_eq_some_iff.mp (show (look ε i).map (fun d => (d, ε)) = some (d, ε1) from h1)
      injection h6 with e1 e2
      subst e1 e2
      exact h5
  cases d with
  | lst xs =>
    obtain rfl : xs = ds' := Option.some.inj h3
    refine .inl ⟨ε, _, ε1, R0, h1, fun v H1 R1 x1 o b => ?_⟩
    obtain ⟨a, ys, rfl, s1, s2, r⟩ := walk_l R1 b (lt R1 b) hli
    rw [← hK]
    exact ⟨a, rfl, ⟨ys, s1⟩, f _ _ R1 x1 (iter_lst s2 r fun b z => ownO_forb z)⟩
  | tup xs =>
    obtain rfl : xs = ds' := Option.some.inj h3
    refine .inr ⟨ε, _, ε1, R0, h1, fun v H1 R1 x1 o b => ?_⟩
    have oo := b.late R1 (lt R1 b)
    cases oo with
    | of h =>
      cases h with
      | @tup a ys ds nf e1 r =>
        rw [← hK]
        refine ⟨a, rfl, ⟨ys, .of e1⟩, f _ _ R1 x1 (iter_tup (fun H' k => .of (k a _ (fun z => nf (ownO_forb z)) e1)) r fun b z => ownO_forb z)⟩
  | scr ns =>
    obtain rfl : ns.map D.int = ds' := Option.some.inj h3
    refine .inl ⟨ε, _, ε1, R0, h1, fun v H1 R1 x1 o b => ?_⟩
    have oo := b.late R1 (lt R1 b)
    rw [← hK]
    cases oo with
    | of h =>
      cases h with
      | @scr a ns h =>
        have hs : ∀ H', Keeps (OwnO (lockM M (lockI (.seq c))) σ) H1 H' → SqL G.K H' a (ns.map V.int) := fun H' k => by
          rcases h with ⟨ob, e1, nf⟩ | h
          · exact .inl (.inr ⟨ob, k a _ (fun z => nf (ownO_forb z)) e1⟩)
          · exact .inr h
        exact ⟨a, rfl, ⟨_, hs H1 fun _ _ _ z => z⟩, f _ _ R1 x1 (iter_lst hs RDs.mapInt fun b z => ownO_forb z)⟩
  | _ => cases h3
theorem pi_rng1 (Xo : XOk T Φ Gs k S X) {tg : Expr} {x : Str} {pp pos : Pos} (hx : x = "range") (hg : S.gl x = true) (hn : ns a = true) (ha : PE X a (tE T Φ G M c)) : PI X tg (.Call (.Name x pp) [a] [] pos) (tI T Φ G M (.rng1 c)) := by
  subst hx
  refine (pi_range1 (Xo.gl hg).1 (Xo.bl _ (by decide +kernel)) (pa_cons ha pa_nil (star_ns hn)) (by rw [star_ns hn]; rfl)).imp fun σ H R q => ?_
  obtain ⟨ε, ds, ε', R0, hd, f⟩ := q
  obtain ⟨⟨d, ε1⟩, h1, h2⟩ := Option.bind_eq_some_iff.mp (show (denE T Φ c ε).bind (fun (d, ε1) => match d with | .int j => if okR j then some (rngD 0 j.toNat, ε1) else none | _ => none) = some (ds, ε') from hd)
  refine ⟨ε, d, ε1, R0, h1, fun v H1 R1 x1 o => ?_⟩
  cases d with
  | int j =>
    dsimp only at h2
    split at h2
    · rename_i hj
      injection h2 with z
      injection z with e1 e2
      subst e1 e2
      have hj := of_decide_eq_true hj
      refine ⟨j, by rw [o.rd.isint], hj.1, hj.2, f _ _ R1 x1 ?_⟩
      have := iter_rng (K := G.K) (W := OwnO (lockM M (lockI (.rng1 c))) σ) (F := Forb G M σ) (H1 := H1) (lo := 0) (n := j.toNat)
      exact this
    · cases h2
  | _ => cases h2
theorem pi_rng2 (Xo : XOk T Φ Gs k S X) {tg b' : Expr} {b : C} {x : Str} {pp pos : Pos} (hx : x = "range") (hg : S.gl x = true) (hn : ns a = true) (hn2 : ns b' = true) (ha : PE X a (tE T Φ G M c)) (hb : PE X b' (tE T Φ G M b)) :
    PI X tg (.Call (.Name x pp) [a, b'] [] pos) (tI T Φ G M (.rng2 c b)) := by
  subst hx
  refine (pi_range2 (Xo.gl hg).1 (Xo.bl _ (by decide +kernel)) (pa_cons ha (pa_cons hb pa_nil (star_ns hn2)) (star_ns hn)) (by rw [star_ns hn, star_ns hn2]; rfl) (by rw [star_ns hn2]; rfl)).imp fun σ H R q => ?_
  obtain ⟨ε, ds, ε', R0, hd, f⟩ := q
  obtain ⟨⟨d, ε1⟩, h1, h2⟩ := Option.bind_eq_some_iff.mp (show (denE T Φ c ε).bind (fun (d, ε1) => (denE T Φ b ε1).bind fun (e, ε2) => match d, e with
    | .int i, .int j => if okR i && okR j then some (rngD i (j - i).toNat, ε2) else none
    | _, _ => none) = some (ds, ε') from hd)
  obtain ⟨⟨d2, ε2⟩, h3, h4⟩ := Option.bind_eq_some_iff.mp h2
  refine ⟨ε, d, ε1, R0, h1, fun v H1 R1 x1 o => ⟨ε1, d2, ε2, R1, h3, fun u H2 R2 x2 o2 => ?_⟩⟩
  cases d <;> cases d2 <;> first | (cases h4; done) | skip
  dsimp only at h4
  split at h4
  · rename_i i j hj
    injection h4 with z
    injection z with e1 e2
    subst e1 e2
    simp only [okR, Bool.and_eq_true, decide_eq_true_eq] at hj
    refine ⟨i, j, by rw [o.rd.isint, o2.rd.isint], ⟨hj.1.1, hj.1.2, hj.2.1, hj.2.2⟩, f _ _ R2 (x1.trans x2) iter_rng⟩
  · cases h4
theorem pi_enumO (Xo : XOk T Φ Gs k S X) (hK : G.K = X.K) {tg : Expr} {x : Str} {pp pos : Pos} (htg : isTupE tg = true) (hx : x = "enumerate") (hg : S.gl x = true) (hn : ns a = true) (ha : PE X a (tB T Φ G M c)) : PI X tg (.Call (.Name x pp) [a] [] pos) (tI T Φ G M (.enum c)) := by
  subst hx
  cases tg <;> first | (simp [isTupE] at htg; done) | skip
  refine (pi_enum (Xo.gl hg).1 (Xo.bl _ (by decide +kernel)) (pa_cons ha pa_nil (star_ns hn)) (by rw [star_ns hn]; rfl)).imp fun σ H R q => ?_
  obtain ⟨ε, ds, ε', R0, hd, f⟩ := q
  obtain ⟨⟨d, ε1⟩, h1, h2⟩ := Option.bind_eq_some_iff.mp (show (denE T Φ c ε).bind (fun (d, ε1) => match d with | .lst xs => some (enumD 0 xs, ε1) | _ => none) = some (ds, ε') from hd)
  refine ⟨ε, d, ε1, R0, h1, fun v H1 R1 x1 o b => ?_⟩
  cases d with
  | lst xs =>
    injection h2 with z
    injection z with e1 e2
    subst e1 e2
    have lt : lateC c (.lst xs) ε1 = some (.lst xs) := by
      cases c <;> first | rfl | skip
      · rename_i i
        obtain ⟨d', h5, h6⟩ := Option.map_eq_some_iff.mp (show (look ε i).map (fun d => (d, ε)) = some (D.lst xs, ε1) from h1)
        injection h6 with e1 e2
        subst e1 e2
        exact h5
    obtain ⟨a, ys, rfl, s1, s2, r⟩ := walk_l (li := lockI (.enum c)) R1 b lt (fun i z => by subst z; simp [lockI])
    rw [← hK]
    exact ⟨a, ys, rfl, s1, f _ _ R1 x1 (iter_enum s2 r fun b z => ownO_forb z)⟩
  | _ => cases h2
theorem pi_zipO (Xo : XOk T Φ Gs k S X) (hK : G.K = X.K) {tg b' : Expr} {b : C} {x : Str} {pp pos : Pos} (htg : isTupE tg = true) (hx : x = "zip") (hg : S.gl x = true) (hn : ns a = true) (hn2 : ns b' = true) (ha : PE X a (tB T Φ G M c)) (hb : PE X b' (tB T Φ G M b)) :
    PI X tg (.Call (.Name x pp) [a, b'] [] pos) (tI T Φ G M (.zip c b)) := by
  subst hx
  cases tg <;> first | (simp [isTupE] at htg; done) | skip
  refine (pi_zip (Xo.gl hg).1 (Xo.bl _ (by decide +kernel)) (pa_cons ha (pa_cons hb pa_nil (star_ns hn2)) (star_ns hn)) (star_ns hn) (by rw [star_ns hn2]; rfl)).imp fun σ H R q => ?_
  obtain ⟨ε, ds, ε', R0, hd, f⟩ := q
  obtain ⟨⟨d, ε1⟩, h1, h2⟩ := Option.bind_eq_some_iff.mp (show (denE T Φ c ε).bind (fun (d, ε1) => (denE T Φ b ε1).bind fun (e, ε2) => (lateC c d ε2).bind fun d' => match d', e with
    | .lst xs, .lst ys => some (zipD xs ys, ε2)
    | _, _ => none) = some (ds, ε') from hd)
  obtain ⟨⟨d2, ε2⟩, h3, h4⟩ := Option.bind_eq_some_iff.mp h2
  obtain ⟨d', h5, h6⟩ := Option.bind_eq_some_iff.mp h4
  refine ⟨ε, d, ε1, R0, h1, fun v H1 R1 x1 o b1 => ⟨ε1, d2, ε2, R1, h3, fun u H2 R2 x2 o2 b2 => ?_⟩⟩
  cases d' <;> cases d2 <;> first | (cases h6; done) | skip
  rename_i xs ys
  injection h6 with z
  injection z with e1 e2
  subst e1 e2
  have lt : lateC b (.lst ys) ε2 = some (.lst ys) := by
    cases b <;> first | rfl | skip
    · rename_i i
      obtain ⟨d9, g5, g6⟩ := Option.map_eq_some_iff.mp (show (look ε1 i).map (fun d => (d, ε1)) = some (D.lst ys, ε2) from h3)
      injection g6 with e1 e2
      subst e1 e2
      exact g5
  obtain ⟨a, us, rfl, s1, s2, r⟩ := walk_l (li := lockI (.zip c b)) R2 (b1.ext x2) h5 (fun i z => by subst z; cases b <;> simp [lockI])
  obtain ⟨a', ws, rfl, s3, s4, r'⟩ := walk_l (li := lockI (.zip c b)) R2 b2 lt (fun i z => by subst z; cases c <;> simp [lockI])
  rw [← hK]
  exact ⟨a, a', us, ws, rfl, s1, s3, f _ _ R2 (x1.trans x2) (iter_zip s2 s4 r r' fun b z => ownO_forb z)⟩

/-! ### a comprehension -/
theorem wipeE_get {ε : Ev} : ∀ {own : List Nat} {j : Nat} {d : D}, look (wipeE ε own) j = some d ↔ (j ∉ own ∧ look ε j = some d)
  | [], j, d => by simp [wipeE]
  | v :: vs, j, d => by
    have ih := wipeE_get (ε := ε) (own := vs) (j := j) (d := d)
    unfold wipeE
    by_cases q : v = j
    · subst q
      constructor
      · intro h
        unfold look at h
        by_cases hl : v < (wipeE ε vs).length
        · rw [List.getElem?_set_self hl] at h; cases h
        · rw [List.getElem?_eq_none (by rw [List.length_set]; omega)] at h; cases h
      · rintro ⟨h, _⟩; exact absurd List.mem_cons_self h
    · have : look ((wipeE ε vs).set v none) j = look (wipeE ε vs) j := by unfold look; rw [List.getElem?_set_ne q]
      rw [this, ih]
      constructor
      · rintro ⟨h1, h2⟩; exact ⟨fun z => (List.mem_cons.mp z).elim (fun e => q e.symm) h1, h2⟩
      · rintro ⟨h1, h2⟩; exact ⟨fun z => h1 (List.mem_cons_of_mem _ z), h2⟩
theorem wipeE_length {ε : Ev} : ∀ {own : List Nat}, (wipeE ε own).length = ε.length
  | [] => rfl
  | v :: vs => by unfold wipeE; rw [List.length_set, wipeE_length]
theorem wipe_at {σ : L2.St} : ∀ {own : List Nat} {j : Nat}, j ∉ own → (wipe σ own)[j]? = σ[j]?
  | [], j, _ => rfl
  | v :: vs, j, h => by
    unfold wipe
    rw [List.getElem?_set_ne (fun z => h (by simp [z]))]
    exact wipe_at fun z => h (List.mem_cons_of_mem _ z)
theorem wipe_own {σ : L2.St} : ∀ {own : List Nat} {j : Nat}, j ∈ own → j < σ.length → (wipe σ own)[j]? = some none
  | v :: vs, j, h, hl => by
    unfold wipe
    by_cases q : v = j
    · subst q; rw [List.getElem?_set_self (by rw [wipe_length]; exact hl)]
    · rw [List.getElem?_set_ne q]
      rcases List.mem_cons.mp h with e | h
      · exact absurd e.symm q
      · exact wipe_own h hl
theorem wipe_eq {σ σ' : L2.St} {own : List Nat} (hl : σ'.length = σ.length) (h : ∀ j, j ∉ own → σ'[j]? = σ[j]?) : wipe σ' own = wipe σ own := by
  refine List.ext_getElem? fun j => ?_
  by_cases q : j ∈ own
  · by_cases hj : j < σ.length
    · rw [wipe_own q hj, wipe_own q (by omega)]
    · rw [List.getElem?_eq_none (by rw [wipe_length]; omega), List.getElem?_eq_none (by rw [wipe_length]; omega)]
  · rw [wipe_at q, wipe_at q, h j q]
theorem own_wipe {σ : L2.St} {own : List Nat} (hS : ∀ i ∈ own, md M i = .S) {j : Nat} {a : Addr} : OwnAt M (wipe σ own) j a ↔ OwnAt M σ j a := by
  unfold OwnAt
  by_cases q : j ∈ own
  · rw [hS j q]; simp
  · unfold At; rw [wipe_at q]
theorem forb_wipe {σ : L2.St} {own : List Nat} (hS : ∀ i ∈ own, md M i = .S) : Forb G M (wipe σ own) = Forb G M σ := by
  funext a
  apply propext
  unfold Forb
  simp only [own_wipe hS]
theorem at_wipe {σ : L2.St} {own : List Nat} (hS : ∀ i ∈ own, md M i = .S) {j : Nat} {a : Addr} (hj : md M j ≠ .S) : At (wipe σ own) j a ↔ At σ j a := by
  unfold At
  rw [wipe_at fun z => hj (hS j z)]
/-- forgetting the block's own names -/
theorem Rel.wipe {ε : Ev} {σ : L2.St} {H : Hp} (R : Rel G M ε σ H) {own : List Nat} (hS : ∀ i ∈ own, md M i = .S) : Rel G M (wipeE ε own) (L2.wipe σ own) H where
  len := by rw [wipe_length, wipeE_length]; exact R.len
  ml := by rw [wipe_length]; exact R.ml
  slot := fun i d e => by
    obtain ⟨h1, h2⟩ := wipeE_get.mp e
    obtain ⟨v, h3, h4⟩ := R.slot i d h2
    exact ⟨v, by rw [wipe_at h1]; exact h3, by rw [forb_wipe hS]; exact h4⟩
  inj := fun i j a h1 h2 => R.inj i j a ((own_wipe hS).mp h1) ((own_wipe hS).mp h2)
  bor := fun i j a d h1 h2 h3 h4 h5 => R.bor i j a d h1 (wipeE_get.mp h2).2 h3 ((at_wipe hS (by rw [h1]; decide)).mp h4) ((own_wipe hS).mp h5)
  balloc := fun i a d h1 h2 h3 h4 => R.balloc i a d h1 (wipeE_get.mp h2).2 h3 ((at_wipe hS (by rw [h1]; decide)).mp h4)
  fresh := fun i a h1 h2 => R.fresh i a h1 ((at_wipe hS (by rw [h1]; decide)).mp h2)
  alloc := fun a f => R.alloc a (by rw [forb_wipe hS] at f; exact f)
  frame := R.frame
  ios := fun p hp => by
    obtain ⟨g1, g2⟩ := R.ios p hp
    refine ⟨g1, (at_wipe hS fun z => ?_).mpr g2⟩
    rw [g1] at z
    rcases R.pm p hp with q | q <;> rw [q] at z <;> cases z
  lp := fun i a h1 h2 => R.lp i a h1 ((at_wipe hS (by rw [h1]; decide)).mp h2)
  nob := fun a na j d h1 h2 h3 h4 => R.nob a na j d h1 (wipeE_get.mp h2).2 h3 ((at_wipe hS (by rw [h1]; decide)).mp h4)
  pm := R.pm
  nF := fun i a h1 h2 => R.nF i a h1 ((at_wipe hS (by rw [h1]; decide)).mp h2)
theorem backE_get {ε ε1 : Ev} : ∀ {own : List Nat} {j : Nat} {d : D}, look (backE ε ε1 own) j = some d → (j ∉ own ∧ look ε1 j = some d) ∨ (j ∈ own ∧ look ε j = some d)
  | [], j, d, h => .inl ⟨by simp, h⟩
  | v :: vs, j, d, h => by
    unfold backE at h
    by_cases q : v = j
    · subst q
      refine .inr ⟨List.mem_cons_self, ?_⟩
      unfold look at h ⊢
      by_cases hl : v < (backE ε ε1 vs).length
      · rw [List.getElem?_set_self hl] at h
        cases q : ε[v]? with
        | none => rw [q] at h; cases h
        | some x => rw [q] at h; exact h
      · rw [List.getElem?_eq_none (by rw [List.length_set]; omega)] at h; cases h
    · have e : ∀ x, look ((backE ε ε1 vs).set v x) j = look (backE ε ε1 vs) j := fun x => by unfold look; rw [List.getElem?_set_ne q]
      rw [e] at h
      rcases backE_get h with ⟨h1, h2⟩ | ⟨h1, h2⟩
      · exact .inl ⟨fun z => (List.mem_cons.mp z).elim (fun e => q e.symm) h1, h2⟩
      · exact .inr ⟨List.mem_cons_of_mem _ h1, h2⟩
theorem backE_length {ε ε1 : Ev} : ∀ {own : List Nat}, (backE ε ε1 own).length = ε1.length
  | [] => rfl
  | v :: vs => by unfold backE; rw [List.length_set, backE_length]
/-- the block's own names are the outer ones again -/
theorem Rel.unwipe {Gp : Gh} {ε ε1 : Ev} {σ : L2.St} {H1 : Hp} {own : List Nat} (h0 : ∀ i ∈ own, ∀ d, look ε i = some d → ∃ v, σ[i]? = some (some v) ∧ RD Gp.K H1 (Forb Gp M σ) v d)
    (hios : ∀ p ∈ Gp.pin, md M p.1 = p.2.2 ∧ At σ p.1 p.2.1) (hlp : ∀ i a, md M i = .L → At σ i a → ∃ p ∈ Gp.pin, p.1 = i) (hS : ∀ i ∈ own, md M i = .S) (R : Rel Gp M (wipeE ε1 own) (L2.wipe σ own) H1) : Rel Gp M (backE ε ε1 own) σ H1 where
  ml := by have := R.ml; rw [wipe_length] at this; exact this
  len := by
    rw [backE_length]
    have := R.len
    rw [wipe_length, wipeE_length] at this
    exact this
  slot := fun i d e => by
    rcases backE_get e with ⟨h1, h2⟩ | ⟨h1, h2⟩
    · obtain ⟨v, h3, h4⟩ := R.slot i d (wipeE_get.mpr ⟨h1, h2⟩)
      exact ⟨v, by rw [← wipe_at h1]; exact h3, by rw [forb_wipe hS] at h4; exact h4⟩
    · obtain ⟨v, h3, h4⟩ := h0 i h1 d h2
      exact ⟨v, h3, fun _ => h4, .of h4⟩
  inj := fun i j a h1 h2 => R.inj i j a ((own_wipe hS).mpr h1) ((own_wipe hS).mpr h2)
  bor := fun i j a d h1 h2 h3 h4 h5 => by
    rcases backE_get h2 with ⟨g1, g2⟩ | ⟨g1, g2⟩
    · exact R.bor i j a d h1 (wipeE_get.mpr ⟨g1, g2⟩) h3 ((at_wipe hS (by rw [h1]; decide)).mpr h4) ((own_wipe hS).mpr h5)
    · rw [hS i g1] at h1; cases h1
  balloc := fun i a d h1 h2 h3 h4 => by
    rcases backE_get h2 with ⟨g1, g2⟩ | ⟨g1, g2⟩
    · exact R.balloc i a d h1 (wipeE_get.mpr ⟨g1, g2⟩) h3 ((at_wipe hS (by rw [h1]; decide)).mpr h4)
    · rw [hS i g1] at h1; cases h1
  fresh := fun i a h1 h2 => R.fresh i a h1 ((at_wipe hS (by rw [h1]; decide)).mpr h2)
  alloc := fun a f => R.alloc a (by rw [forb_wipe hS]; exact f)
  frame := R.frame
  ios := hios
  lp := hlp
  nob := fun a na j d h1 h2 h3 h4 => by
    rcases backE_get h2 with ⟨g1, g2⟩ | ⟨g1, g2⟩
    · exact R.nob a na j d h1 (wipeE_get.mpr ⟨g1, g2⟩) h3 ((at_wipe hS (by rw [h1]; decide)).mpr h4)
    · rw [hS j g1] at h1; cases h1
  pm := R.pm
  nF := fun i a h1 h2 => R.nF i a h1 ((at_wipe hS (by rw [h1]; decide)).mpr h2)
/-- the list that is being made is met by nothing -/
theorem Rel.acc {ε : Ev} {σ : L2.St} {H : Hp} (R : Rel G M ε σ H) {p : Addr} {o : HO} (hF : G.F p) (hb : G.nb p) (h0 : G.H0 p = none) (hn : ∀ i, ¬ OwnAt M σ i p) : Rel G M ε σ (upd H p o) := by
  have off : ∀ b u, ¬ Forb G M σ b → H b = some u → upd H p o b = some u := fun b u f e => by
    rw [upd_ne (fun z => f (by rw [z]; exact .inl hF))]; exact e
  have there : ∀ b, H b ≠ none → upd H p o b ≠ none := fun b n => by
    by_cases q : b = p
    · subst q; rw [upd_same]; simp
    · rw [upd_ne q]; exact n
  refine ⟨R.len, R.ml, fun i d e => ?_, R.inj, R.bor, fun i a d h1 h2 h3 h4 => there a (R.balloc i a d h1 h2 h3 h4), R.fresh, fun a f => there a (R.alloc a f), fun b u n e => ?_, R.ios, R.lp, R.nob, R.pm, R.nF⟩
  · obtain ⟨v, h1, h2, h3⟩ := R.slot i d e
    refine ⟨v, h1, fun hS => (h2 hS).mono off, ?_⟩
    by_cases hS : md M i = .S
    · exact .of ((h2 hS).mono off)
    · have top : ∀ b, v = .ref b → mutD d = true → b ≠ p := fun b ev hm z => by
        have ha : At σ i p := by unfold At; rw [h1, ev, z]
        cases hmi : md M i with
        | S => exact hS hmi
        | B => exact R.nob p hb i d hmi e hm ha
        | O => exact hn i ⟨.inl hmi, ha⟩
        | L => exact hn i ⟨.inr hmi, ha⟩
      cases h3 with
      | of h => exact .of (h.mono off)
      | lst e' r => exact .lst (by rw [upd_ne (top _ rfl rfl)]; exact e') (r.mono off)
      | dct e' r => exact .dct (by rw [upd_ne (top _ rfl rfl)]; exact e') (r.go (fun _ z _ => z) off)
      | set e' r n => exact .set (by rw [upd_ne (top _ rfl rfl)]; exact e') r n
  · rw [upd_ne (fun z => by rw [z, h0] at e; cases e)]
    exact R.frame b u n e
end
end VS

set_option maxHeartbeats 1000000
/-! V11: a comprehension's reading; every expression that is a code reads as its worth. -/
namespace VS
open PySem PySem.Spec PyProof.Rows L2

section
variable {T : Tb} {Φ : Ph} {Gs : Gc} {k : Nat} {S : Sc} {X : Cx} {G : Gh} {M : List Md} {c : C} {e a : Expr}
theorem PE.ex {t : Gh → TE} (h : ∀ G : Gh, G.K = X.K → PE X e (t G)) : PE X e (fun σ H Q => ∃ G : Gh, G.K = X.K ∧ t G σ H Q) :=
  ⟨fun pins s σ H Q I ⟨G, hK, q⟩ => (h G hK).run pins s σ H Q I q⟩
theorem PT.ex {t : Gh → TT} (h : ∀ G : Gh, G.K = X.K → PT X e (t G)) : PT X e (fun σ H Q => ∃ G : Gh, G.K = X.K ∧ t G σ H Q) :=
  ⟨fun pins s σ H Q I ⟨G, hK, q⟩ => (h G hK).run pins s σ H Q I q⟩
theorem PG.ex {t : Gh → TG} (h : ∀ G : Gh, G.K = X.K → PG X e (t G)) : PG X e (fun v σ H Q => ∃ G : Gh, G.K = X.K ∧ t G v σ H Q) :=
  ⟨fun pins s σ H v u Q I r ⟨G, hK, q⟩ => (h G hK).run pins s σ H v u Q I r q⟩
/-- the tests of a block -/
def tTs (T : Tb) (Φ : Ph) (K : PySem.W.Frag) (M : List Md) (c : C) : TT := fun σ H Q => ∃ G : Gh, G.K = K ∧ tT T Φ G M c σ H Q
theorem own_of_ownOf {N : List Str} : ∀ {own : List Nat}, (∀ i ∈ own, i < N.length) → (ownOf N own).map (·.2) = own
  | [], _ => rfl
  | i :: r, h => by
    have hi := h i List.mem_cons_self
    unfold ownOf
    rw [List.getElem?_eq_getElem hi]
    show i :: (ownOf N r).map (·.2) = i :: r
    rw [own_of_ownOf fun j hj => h j (List.mem_cons_of_mem _ hj)]
theorem comp_core {ε : Ev} {σ : L2.St} {H : Hp} {Q : VK} {own : List Nat} {g : Tg} {it : CI} {t el : C} {r : D} {ε' : Ev} (hK : G.K = X.K) (hS : ∀ i ∈ own, md M i = .S) (hg : ∀ i ∈ tgV g, i ∈ own)
    (R : Rel G M ε σ H) (hd : denE T Φ (.comp own g it t el) ε = some (r, ε')) (f : ∀ v H1, Rel G M ε' σ H1 → Ext M σ H H1 → ROk true G M ε' σ H H1 v r → Q v H1) :
    tLc (tI T Φ G M it) (fun v σ H Q => ∃ G' : Gh, G'.K = X.K ∧ tG G' (lockM M (lockI it)) g v σ H Q) (tTs T Φ X.K (lockM M (lockI it)) t) (fun σ H Q => ∃ G' : Gh, G'.K = X.K ∧ tE T Φ G' (lockM M (lockI it)) el σ H Q) own σ H Q := by
  obtain ⟨⟨ds, ε1⟩, h1, h2⟩ := Option.bind_eq_some_iff.mp (show (denI T Φ it ε).bind (fun (ds, ε1) => (compL (fun d ε2 => tgD g d (wipeE ε2 own)) (denT T Φ t) (denE T Φ el) ds ε1 []).map fun (ys, ε2) => (D.lst ys, backE ε1 ε2 own)) = some (r, ε') from hd)
  obtain ⟨⟨ys, ε2⟩, h3, h4⟩ := Option.map_eq_some_iff.mp h2
  injection h4 with e1 e2
  subst e1 e2
  refine ⟨ε, ds, ε1, R, h1, fun J H1 R1 x1 hJ D hD => ?_⟩
  generalize hli : lockI it = li at *
  generalize hM1 : lockM M li = M1 at *
  have hS1 : ∀ i ∈ own, md M1 i = .S := fun i hi => by rw [← hM1]; exact lock_S.mpr (hS i hi)
  let G1 := G.loop M li σ H1
  let G2 := G1.plus D
  have hKG : G2.K = X.K := hK
  have Re : Rel G1 M1 ε1 σ H1 := by rw [← hM1]; exact R1.enter li
  -- the new list stands apart
  have pinD : ∀ p ∈ G1.pin, p.2.1 ≠ D := fun p hp z => by
    obtain ⟨g1, g2⟩ := Re.ios p hp
    rw [z] at g2
    have : md M1 p.1 = .O ∨ md M1 p.1 = .L := by rw [g1]; exact Re.pm p hp
    exact Re.alloc D (.inr ⟨p.1, this, g2⟩) hD
  have ioD : ¬ G2.ioA D := fun ⟨p, hp, _, e⟩ => pinD p hp e
  have noOwn : ∀ {ε' σ' H'}, Rel G2 M1 ε' σ' H' → ∀ i, ¬ OwnAt M1 σ' i D := fun {ε' σ' H'} R' i ⟨hm, ha⟩ => by
    rcases hm with hm | hm
    · rcases R'.nF i D hm ha with z | z
      · exact z (.inl rfl)
      · exact ioD z
    · obtain ⟨p, hp, e⟩ := R'.lp i D hm ha
      obtain ⟨_, g2⟩ := R'.ios p hp
      rw [e] at g2
      have : some (some (V.ref p.2.1)) = some (some (V.ref D)) := g2.symm.trans ha
      injection this with this; injection this with this; injection this with this
      exact pinD p hp this
  have h0D : G2.H0 D = none := by
    have : ¬ OwnO (lockM M li) σ D := fun ⟨i, a, b⟩ => R1.alloc D (ownO_forb ⟨i, a, b⟩) hD
    exact (if_neg this).trans hD
  have kp : ∀ {ε' σ' H'}, Rel G2 M1 ε' σ' H' → Keeps (OwnO M1 σ) H1 H' := fun {ε' σ' H'} R' => by
    have R'' : Rel G1 M1 ε' σ' H' := R'.minus
    subst hM1
    exact R''.keeps R1
  have lat : ∀ {ε' σ' H'}, Rel G2 M1 ε' σ' H' → ∀ b, Forb G2 M1 σ' b → H1 b ≠ none → Forb G M σ b := fun {ε' σ' H'} R' b fb n => by
    rcases forb_plus.mp fb with z | z
    · exact absurd (z ▸ hD) n
    · have R'' : Rel G1 M1 ε' σ' H' := R'.minus
      subst hM1
      exact R''.later R1 z n
  let St := fun (i : Nat) (H' : Hp) => ∃ εi accV accD, Rel G2 M1 (wipeE εi own) (wipe σ own) H' ∧ H' D = some (.lst accV) ∧ RDs G.K H' (Forb G2 M1 (wipe σ own)) accV accD ∧ compL (fun d ε2 => tgD g d (wipeE ε2 own)) (denT T Φ t) (denE T Φ el) (ds.drop i) εi accD = some (ys, ε2)
  refine ⟨fun i m H' => m = ds.length - i ∧ i ≤ ds.length ∧ St i H', ⟨ds.length, by omega, Nat.zero_le _, ε1, [], [], (Re.plus hD (Same.upd hD) (by rw [upd_same]; simp)).wipe hS1, upd_same, .nil, by simpa using h3⟩, ?_⟩
  rintro i m H' ⟨rfl, hi, εi, accV, accD, Ri, hDi, hac, hcl⟩
  have hkp := kp Ri
  rcases Nat.lt_or_ge i ds.length with hlt | hge
  · -- a turn
    refine .inr ⟨hJ.go i H' (by rw [← hM1] at hkp ⊢; exact hkp) hlt, fun H'' => i + 1 ≤ ds.length ∧ St (i + 1) H'', fun H'' n => ⟨ds.length - (i + 1), by omega, rfl, n.1, n.2⟩, fun x H5 hy => ?_⟩
    obtain ⟨d, hdi, sm, rd⟩ := hJ.yld i H' x H5 (Forb G2 M1 (wipe σ own)) hlt (by rw [← hM1] at hkp ⊢; exact hkp) (lat Ri) Ri.taken hy
    have hdrop : ds.drop i = d :: ds.drop (i + 1) := by
      obtain ⟨hl, he⟩ := List.getElem?_eq_some_iff.mp hdi
      rw [List.drop_eq_getElem_cons hl, he]
    rw [hdrop] at hcl
    unfold compL at hcl
    split at hcl
    · cases hcl
    · rename_i εa hta
      have R5 := Ri.grow sm
      refine ⟨G2, hKG, wipeE εi own, d, εa, R5, rd, hta, fun σ2 R6 off fb => ?_⟩
      have hw : wipe σ2 own = wipe σ own := wipe_eq (by rw [off.1, wipe_length]) fun j hj => by
        rw [off.2 j fun z => hj (hg j z), wipe_at hj]
      refine ⟨hw, ?_⟩
      split at hcl
      · -- kept
        rename_i εb htb
        refine ⟨G2, hKG, εa, true, εb, R6, htb, fun H6 R7 x7 => ?_⟩
        dsimp only
        rw [if_pos rfl]
        split at hcl
        · rename_i y εc hel
          split at hcl
          · rename_i hlen
            refine ⟨G2, hKG, εb, y, εc, R7, hel, fun yv H7 R8 x8 o8 => ?_⟩
            have hown : ∀ i, md M1 i = .O → ¬ At σ2 i D := fun i hm ha => noOwn R6 i ⟨.inl hm, ha⟩
            have hD7 : H7 D = some (.lst accV) := x8 D _ (x7 D _ (sm D _ hDi) hown) hown
            have eF : Forb G2 M1 σ2 = Forb G2 M1 (wipe σ own) := by rw [← hw, forb_wipe hS1]
            have hac7 : RDs G.K H7 (Forb G2 M1 (wipe σ own)) accV accD := by
              rw [← eF] at hac ⊢
              exact ((hac.mono fun b o _ e => sm b o e).ext x7).ext x8
            have hz : accV.length < sizeLine := by rw [hac.length]; exact Nat.lt_of_lt_of_le hlen lim_le
            refine ⟨accV, hD7, hz, by omega, εc, accV ++ [yv], accD ++ [y], ?_, upd_same, ?_, hcl⟩
            · have := R8.wipe hS1
              rw [hw] at this
              exact this.acc (.inl rfl) (.inl rfl) h0D (noOwn this)
            · have off2 : ∀ b o, ¬ Forb G2 M1 (wipe σ own) b → H7 b = some o → upd H7 D (.lst (accV ++ [yv])) b = some o := fun b o fn e => by
                rw [upd_ne (fun z => fn (by rw [z]; exact .inl (.inl rfl)))]; exact e
              have o8' := o8.rd
              rw [eF] at o8'
              exact (hac7.append (.cons o8' .nil)).mono off2
          · cases hcl
        · cases hcl
      · -- left out
        rename_i εb htb
        refine ⟨G2, hKG, εa, false, εb, R6, htb, fun H6 R7 x7 => ?_⟩
        dsimp only
        rw [if_neg Bool.false_ne_true]
        have hown : ∀ i, md M1 i = .O → ¬ At σ2 i D := fun i hm ha => noOwn R6 i ⟨.inl hm, ha⟩
        have eF : Forb G2 M1 σ2 = Forb G2 M1 (wipe σ own) := by rw [← hw, forb_wipe hS1]
        refine ⟨by omega, εb, accV, accD, ?_, x7 D _ (sm D _ hDi) hown, ?_, hcl⟩
        · have := R7.wipe hS1
          rw [hw] at this
          exact this
        · rw [← eF] at hac ⊢
          exact (hac.mono fun b o _ e => sm b o e).ext x7
      · cases hcl
  · -- the end
    have hi' : i = ds.length := by omega
    subst hi'
    rw [List.drop_length] at hcl
    injection hcl with z
    injection z with e1 e2
    subst e1 e2
    refine .inl ⟨hJ.stop _ H' (by rw [← hM1] at hkp ⊢; exact hkp) (Nat.le_refl _), ?_⟩
    have Rl : Rel (G.plus D) M (wipeE εi own) (wipe σ own) H' := by
      refine (R1.bp hD).leave (li := li) ?_
      rw [hM1]; exact Ri
    have eF2 : ∀ b, Forb G2 M1 (wipe σ own) b ↔ Forb (G.plus D) M σ b := fun b => by
      rw [forb_wipe hS1, forb_plus, forb_plus]
      subst hM1
      unfold wA
      rw [show Forb G1 (lockM M li) σ = Forb G M σ from forb_loop]
    have offD : ∀ b o, ¬ Forb (G.plus D) M σ b → H1 b = some o → H' b = some o := fun b o fn e => hkp b o (fun z => fn (forb_plus.mpr (.inr (by subst hM1; exact ownO_forb z)))) e
    have Ru : Rel (G.plus D) M (backE ε1 εi own) σ H' := Rel.unwipe (fun i hi d hl => by
      obtain ⟨v, g1, g2⟩ := R1.varS hl (hS i hi)
      exact ⟨v, g1, ((g2.avoid hD).less fun b z => forb_plus.mp z).mono offD⟩) R1.ios R1.lp hS Rl
    have nD : ¬ Forb G M σ D := fun z => R1.alloc D z hD
    have hac2 : RDs G.K H' (wA D (Forb G M σ)) accV accD := hac.less fun b z => (eF2 b).mpr (forb_plus.mpr z)
    have xx : Ext M σ H H' := x1.trans fun b o e hn => hkp b o (fun ⟨i, h1, h2⟩ => by
      subst hM1
      exact hn i (lock_O h1).1 h2) e
    refine f (.ref D) H' Ru.minus xx ⟨.lst nD hDi (hac2.less fun b z => .inr z), fun _ _ => ⟨D, rfl, x1.none R1 hD, Ru, .lst hDi hac2⟩, fun _ => rfl⟩
theorem comp_ok (Xo : XOk T Φ Gs k S X) (hK : G.K = X.K) {own : List Nat} {g : Tg} {it : CI} {t el : C} {elt tg iter : Expr} {ifs : List Expr} {scope : Scope} {pos : Pos} (hS : ∀ i ∈ own, md M i = .S) (hlt : ∀ i ∈ own, i < S.N.length) (hg : ∀ i ∈ tgV g, i ∈ own)
    (hb : blkC S.N S.sc scope (ownOf S.N own) = true) (hn : ns iter = true) (hi : PI X tg iter (tI T Φ G M it))
    (pg : ∀ X', XOk T Φ Gs k (scopeIn S scope) X' → X'.K = X.K → PG X' tg (fun v σ H Q => ∃ G' : Gh, G'.K = X.K ∧ tG G' (lockM M (lockI it)) g v σ H Q))
    (pt : ∀ X', XOk T Φ Gs k (scopeIn S scope) X' → X'.K = X.K → PTs X' ifs (tTs T Φ X.K (lockM M (lockI it)) t))
    (pe : ∀ X', XOk T Φ Gs k (scopeIn S scope) X' → X'.K = X.K → PE X' elt (fun σ H Q => ∃ G' : Gh, G'.K = X.K ∧ tE T Φ G' (lockM M (lockI it)) el σ H Q)) :
    PE X (.ListComp elt [⟨tg, iter, ifs, 0⟩] scope pos) (tE T Φ G M (.comp own g it t el)) ∧
    (∀ {i : Nat} {y : Str} {py spos : Pos}, X.N[i]? = some y → X.env.scope.names.lookup y = some .local → swapsWith (.ListComp elt [⟨tg, iter, ifs, 0⟩] scope pos) (some (.Name y py)) spos.line X.env = pure true →
      PS X (.Assign [.Name y py] (.ListComp elt [⟨tg, iter, ifs, 0⟩] scope pos) spos) (tAsg (tE T Φ G M (.comp own g it t el)) (gName i))) := by
  have hN : X.N.Nodup := by rw [Xo.N]; exact Xo.nd
  have bk : BlkOk X.N X.env.scope scope (ownOf S.N own) := by rw [Xo.N, Xo.sc]; exact blkOk_by hb
  have inX : ∀ (s : Shared) (H : Hp) (C : Addr) (cl : List (Str × Addr)) (fp : List Addr), XOk T Φ Gs k (scopeIn S scope) (X.blk s H scope (compEnvC scope cl C X.env) fp) := fun s H C cl fp =>
    ⟨Xo.N, Xo.nd, by
      show relabel scope X.env = relS scope S.sc
      unfold relabel relS
      rw [← Xo.sc]; rfl, rfl, Xo.calm, rfl, Xo.gd, Xo.room, Xo.bl, Xo.gs, Xo.fns⟩
  have fs : ∀ x, foldedSetIterable iter X.env x = pure x := fun x => by
    cases iter <;> first | rfl | (simp [ns] at hn)
  have eo := own_of_ownOf (N := S.N) hlt
  have core : ∀ σ H Q, tE T Φ G M (.comp own g it t el) σ H Q → tLc (tI T Φ G M it) (fun v σ H Q => ∃ G' : Gh, G'.K = X.K ∧ tG G' (lockM M (lockI it)) g v σ H Q) (tTs T Φ X.K (lockM M (lockI it)) t)
      (fun σ H Q => ∃ G' : Gh, G'.K = X.K ∧ tE T Φ G' (lockM M (lockI it)) el σ H Q) ((ownOf S.N own).map (·.2)) σ H Q := fun σ H Q q => by
    obtain ⟨ε, r, ε', R, hd, f⟩ := q
    rw [eo]
    exact comp_core hK hS hg R hd f
  refine ⟨(pe_lc Xo.calm hN hi bk (fun s H C cl fp => pg _ (inX s H C cl fp) rfl) (fun s H C cl fp => pt _ (inX s H C cl fp) rfl) (fun s H C cl fp => pe _ (inX s H C cl fp) rfl) fs).imp core, fun {i y py spos} hy hl hsw => ?_⟩
  have := ps_setLc (i := i) Xo.calm hN hy hl hsw hi bk (fun s H C cl fp => pg _ (inX s H C cl fp) rfl) (fun s H C cl fp => pt _ (inX s H C cl fp) rfl) (fun s H C cl fp => pe _ (inX s H C cl fp) rfl) fs
  exact ⟨fun pins s σ H D I q => this.run pins s σ H D I (core σ H _ q)⟩
theorem compL_pre {g : D → Ev → Option Ev} {t : Ev → Option (Bool × Ev)} {e : Ev → Option (D × Ev)} : ∀ {ds : List D} {ε ε' : Ev} {acc ys : List D}, compL g t e ds ε acc = some (ys, ε') → ∃ zs, ys = acc ++ zs
  | [], ε, ε', acc, ys, h => by
    simp only [compL] at h
    cases h
    exact ⟨[], by simp⟩
  | d :: ds, ε, ε', acc, ys, h => by
    unfold compL at h
    split at h
    · cases h
    · split at h
      · split at h
        · split at h
          · obtain ⟨zs, e⟩ := compL_pre h
            rename_i y _ _ _
            exact ⟨y :: zs, by rw [e]; simp⟩
          · cases h
        · cases h
      · exact compL_pre h
      · cases h
theorem den_pair {kc vc : C} {ε ε' : Ev} {y : D} (h : denE T Φ (.tup (.cons kc (.cons vc .nil))) ε = some (y, ε')) : ∃ kd ε1 vd, y = .tup [kd, vd] ∧ denE T Φ kc ε = some (kd, ε1) ∧ denE T Φ vc ε1 = some (vd, ε') := by
  obtain ⟨⟨ds, ε1⟩, h1, h2⟩ := Option.bind_eq_some_iff.mp (show (denEs T Φ (.cons kc (.cons vc .nil)) ε).bind (fun (ds, ε1) => if ds.length ≤ lim then some (D.tup ds, ε1) else none) = some (y, ε') from h)
  obtain ⟨⟨kd, ε2⟩, h3, h4⟩ := Option.bind_eq_some_iff.mp (show (denE T Φ kc ε).bind (fun (d, ε1) => (denEs T Φ (.cons vc .nil) ε1).map fun (ds, ε2) => (d :: ds, ε2)) = some (ds, ε1) from h1)
  obtain ⟨⟨es, ε3⟩, h5, h6⟩ := Option.map_eq_some_iff.mp h4
  obtain ⟨⟨vd, ε4⟩, h7, h8⟩ := Option.bind_eq_some_iff.mp (show (denE T Φ vc ε2).bind (fun (d, ε1) => (denEs T Φ .nil ε1).map fun (ds, ε2) => (d :: ds, ε2)) = some (es, ε3) from h5)
  cases (show some (([vd] : List D), ε4) = some (es, ε3) from h8)
  cases h6
  dsimp only at h2
  split at h2
  · cases h2
    exact ⟨kd, ε2, vd, rfl, h3, h7⟩
  · cases h2
theorem mkDL_none (zs : List D) : zs.foldl mkD1 none = none := by
  induction zs with
  | nil => rfl
  | cons a r ih => exact ih
theorem mkDL_next {acc zs : List D} {vd : D} {kds ks : List (Key × D)} {kd : D} (h : mkDL acc = some ks) (hh : mkDL ((acc ++ [.tup [kd, vd]]) ++ zs) = some kds) :
    ∃ (k : Int) (ks' : List (Key × D)), kd = .int k ∧ ks' = putKD ks (.inl k) vd ∧ mkDL (acc ++ [.tup [kd, vd]]) = some (putKD ks (.inl k) vd) := by
  have e : mkDL (acc ++ [.tup [kd, vd]]) = mkD1 (some ks) (.tup [kd, vd]) := by
    unfold mkDL at h ⊢
    rw [List.foldl_append, h]; rfl
  have e2 : mkDL ((acc ++ [.tup [kd, vd]]) ++ zs) = zs.foldl mkD1 (mkD1 (some ks) (.tup [kd, vd])) := by
    rw [← e]; unfold mkDL; rw [List.foldl_append]
  rw [e]
  rw [e2] at hh
  cases kd <;> first | (exact ⟨_, _, rfl, rfl, rfl⟩) | (rw [show mkD1 (some ks) _ = none from rfl, mkDL_none] at hh; cases hh)
theorem putKD_len (kvs : List (Key × D)) (i : Key) (d : D) : (putKD kvs i d).length ≤ kvs.length + 1 := by
  unfold putKD
  split <;> simp
theorem mkDL_len' : ∀ (xs : List D) (ks ks' : List (Key × D)), xs.foldl mkD1 (some ks) = some ks' → ks'.length ≤ ks.length + xs.length
  | [], ks, ks', h => by cases h; simp
  | x :: xs, ks, ks', h => by
    rw [List.foldl_cons] at h
    cases q : mkD1 (some ks) x with
    | none => rw [q, mkDL_none] at h; cases h
    | some k2 =>
      rw [q] at h
      have := mkDL_len' xs k2 ks' h
      have h2 : k2.length ≤ ks.length + 1 := by
        unfold mkD1 at q
        simp only [Option.bind_some] at q
        split at q
        · cases q; exact putKD_len _ _ _
        · cases q
      rw [List.length_cons]; omega
theorem mkDL_len {xs : List D} {ks : List (Key × D)} (h : mkDL xs = some ks) : ks.length ≤ xs.length := by
  have := mkDL_len' xs [] ks h
  simpa using this
theorem dcomp_core {ε : Ev} {σ : L2.St} {H : Hp} {Q : VK} {own : List Nat} {g : Tg} {it : CI} {t kc vc : C} {r : D} {ε' : Ev} (hK : G.K = X.K) (hS : ∀ i ∈ own, md M i = .S) (hg : ∀ i ∈ tgV g, i ∈ own)
    (R : Rel G M ε σ H) (hd : denE T Φ (.p1 .mkD (.comp own g it t (.tup (.cons kc (.cons vc .nil))))) ε = some (r, ε')) (f : ∀ v H1, Rel G M ε' σ H1 → Ext M σ H H1 → ROk true G M ε' σ H H1 v r → Q v H1) :
    tDc (tI T Φ G M it) (fun v σ H Q => ∃ G' : Gh, G'.K = X.K ∧ tG G' (lockM M (lockI it)) g v σ H Q) (tTs T Φ X.K (lockM M (lockI it)) t) (fun σ H Q => ∃ G' : Gh, G'.K = X.K ∧ tE T Φ G' (lockM M (lockI it)) kc σ H Q) (fun σ H Q => ∃ G' : Gh, G'.K = X.K ∧ tE T Φ G' (lockM M (lockI it)) vc σ H Q) own σ H Q := by
  obtain ⟨⟨dl, εl⟩, h01, h02⟩ := Option.bind_eq_some_iff.mp (show (denE T Φ (.comp own g it t (.tup (.cons kc (.cons vc .nil)))) ε).bind (fun (d, ε1) => (op1 .mkD d).map fun r => (r, ε1)) = some (r, ε') from hd)
  obtain ⟨⟨ds, ε1⟩, h1, h2⟩ := Option.bind_eq_some_iff.mp (show (denI T Φ it ε).bind (fun (ds, ε1) => (compL (fun d ε2 => tgD g d (wipeE ε2 own)) (denT T Φ t) (denE T Φ (.tup (.cons kc (.cons vc .nil)))) ds ε1 []).map fun (ys, ε2) => (D.lst ys, backE ε1 ε2 own)) = some (dl, εl) from h01)
  obtain ⟨⟨ys, ε2⟩, h3, h4⟩ := Option.map_eq_some_iff.mp h2
  injection h4 with e1 e2
  subst e1 e2
  obtain ⟨r', h5, h6⟩ := Option.map_eq_some_iff.mp h02
  injection h6 with e1 e2
  subst e1 e2
  obtain ⟨kds, h7, rfl⟩ := Option.map_eq_some_iff.mp (show (mkDL ys).map D.dct = some r' from h5)
  refine ⟨ε, ds, ε1, R, h1, fun J H1 R1 x1 hJ D hD => ?_⟩
  generalize hli : lockI it = li at *
  generalize hM1 : lockM M li = M1 at *
  have hS1 : ∀ i ∈ own, md M1 i = .S := fun i hi => by rw [← hM1]; exact lock_S.mpr (hS i hi)
  let G1 := G.loop M li σ H1
  let G2 := G1.plus D
  have hKG : G2.K = X.K := hK
  have Re : Rel G1 M1 ε1 σ H1 := by rw [← hM1]; exact R1.enter li
  -- the new list stands apart
  have pinD : ∀ p ∈ G1.pin, p.2.1 ≠ D := fun p hp z => by
    obtain ⟨g1, g2⟩ := Re.ios p hp
    rw [z] at g2
    have : md M1 p.1 = .O ∨ md M1 p.1 = .L := by rw [g1]; exact Re.pm p hp
    exact Re.alloc D (.inr ⟨p.1, this, g2⟩) hD
  have ioD : ¬ G2.ioA D := fun ⟨p, hp, _, e⟩ => pinD p hp e
  have noOwn : ∀ {ε' σ' H'}, Rel G2 M1 ε' σ' H' → ∀ i, ¬ OwnAt M1 σ' i D := fun {ε' σ' H'} R' i ⟨hm, ha⟩ => by
    rcases hm with hm | hm
    · rcases R'.nF i D hm ha with z | z
      · exact z (.inl rfl)
      · exact ioD z
    · obtain ⟨p, hp, e⟩ := R'.lp i D hm ha
      obtain ⟨_, g2⟩ := R'.ios p hp
      rw [e] at g2
      have : some (some (V.ref p.2.1)) = some (some (V.ref D)) := g2.symm.trans ha
      injection this with this; injection this with this; injection this with this
      exact pinD p hp this
  have h0D : G2.H0 D = none := by
    have : ¬ OwnO (lockM M li) σ D := fun ⟨i, a, b⟩ => R1.alloc D (ownO_forb ⟨i, a, b⟩) hD
    exact (if_neg this).trans hD
  have kp : ∀ {ε' σ' H'}, Rel G2 M1 ε' σ' H' → Keeps (OwnO M1 σ) H1 H' := fun {ε' σ' H'} R' => by
    have R'' : Rel G1 M1 ε' σ' H' := R'.minus
    subst hM1
    exact R''.keeps R1
  have lat : ∀ {ε' σ' H'}, Rel G2 M1 ε' σ' H' → ∀ b, Forb G2 M1 σ' b → H1 b ≠ none → Forb G M σ b := fun {ε' σ' H'} R' b fb n => by
    rcases forb_plus.mp fb with z | z
    · exact absurd (z ▸ hD) n
    · have R'' : Rel G1 M1 ε' σ' H' := R'.minus
      subst hM1
      exact R''.later R1 z n
  let St := fun (i : Nat) (H' : Hp) => ∃ εi accV accD accK, Rel G2 M1 (wipeE εi own) (wipe σ own) H' ∧ H' D = some (.dK accV) ∧ RDk G.K H' (Forb G2 M1 (wipe σ own)) accV accK ∧ mkDL accD = some accK ∧ compL (fun d ε2 => tgD g d (wipeE ε2 own)) (denT T Φ t) (denE T Φ (.tup (.cons kc (.cons vc .nil)))) (ds.drop i) εi accD = some (ys, ε2)
  refine ⟨fun i m H' => m = ds.length - i ∧ i ≤ ds.length ∧ St i H', ⟨ds.length, by omega, Nat.zero_le _, ε1, [], [], [], (Re.plus hD (Same.upd hD) (by rw [upd_same]; simp)).wipe hS1, upd_same, .nil, rfl, by simpa using h3⟩, ?_⟩
  rintro i m H' ⟨rfl, hi, εi, accV, accD, accK, Ri, hDi, hac, hmk, hcl⟩
  have hkp := kp Ri
  rcases Nat.lt_or_ge i ds.length with hlt | hge
  · -- a turn
    refine .inr ⟨hJ.go i H' (by rw [← hM1] at hkp ⊢; exact hkp) hlt, fun H'' => i + 1 ≤ ds.length ∧ St (i + 1) H'', fun H'' n => ⟨ds.length - (i + 1), by omega, rfl, n.1, n.2⟩, fun x H5 hy => ?_⟩
    obtain ⟨d, hdi, sm, rd⟩ := hJ.yld i H' x H5 (Forb G2 M1 (wipe σ own)) hlt (by rw [← hM1] at hkp ⊢; exact hkp) (lat Ri) Ri.taken hy
    have hdrop : ds.drop i = d :: ds.drop (i + 1) := by
      obtain ⟨hl, he⟩ := List.getElem?_eq_some_iff.mp hdi
      rw [List.drop_eq_getElem_cons hl, he]
    rw [hdrop] at hcl
    unfold compL at hcl
    split at hcl
    · cases hcl
    · rename_i εa hta
      have R5 := Ri.grow sm
      refine ⟨G2, hKG, wipeE εi own, d, εa, R5, rd, hta, fun σ2 R6 off fb => ?_⟩
      have hw : wipe σ2 own = wipe σ own := wipe_eq (by rw [off.1, wipe_length]) fun j hj => by
        rw [off.2 j fun z => hj (hg j z), wipe_at hj]
      refine ⟨hw, ?_⟩
      split at hcl
      · -- kept
        rename_i εb htb
        refine ⟨G2, hKG, εa, true, εb, R6, htb, fun H6 R7 x7 => ?_⟩
        dsimp only
        rw [if_pos rfl]
        split at hcl
        · rename_i y εc hel
          split at hcl
          · rename_i hlen
            obtain ⟨zs, rfl⟩ := compL_pre hcl
            obtain ⟨kd, εm, vd, rfl, hk1, hk2⟩ := den_pair hel
            obtain ⟨kk, accK', rfl, hmk2, hmk3⟩ := mkDL_next hmk h7
            refine ⟨G2, hKG, εb, .int kk, εm, R7, hk1, fun yk H8 R9 x9 o9 => ⟨G2, hKG, εm, vd, εc, R9, hk2, fun yv H7 R8 x8 o8 => ?_⟩⟩
            have hown : ∀ i, md M1 i = .O → ¬ At σ2 i D := fun i hm ha => noOwn R6 i ⟨.inl hm, ha⟩
            have hD7 : H7 D = some (.dK accV) := x8 D _ (x9 D _ (x7 D _ (sm D _ hDi) hown) hown) hown
            have eF : Forb G2 M1 σ2 = Forb G2 M1 (wipe σ own) := by rw [← hw, forb_wipe hS1]
            have hac7 : RDk G.K H7 (Forb G2 M1 (wipe σ own)) accV accK := by
              rw [← eF] at hac ⊢
              exact (((hac.go (fun _ z _ => z) fun b o _ e => sm b o e).go (fun _ z _ => z) x7.off).go (fun _ z _ => z) x9.off).go (fun _ z _ => z) x8.off
            have hz : accV.length < sizeLine := by
              have := mkDL_len hmk
              rw [hac.len]; exact Nat.lt_of_lt_of_le (Nat.lt_of_le_of_lt this hlen) lim_le
            have hyk : yk = kV (.inl kk) := by
              have := o9.rd
              cases this; rfl
            refine ⟨accV, .inl kk, hyk, hD7, hz, by omega, εc, putK accV (.inl kk) yv, accD ++ [.tup [.int kk, vd]], putKD accK (.inl kk) vd, ?_, upd_same, ?_, hmk3, hcl⟩
            · have := R8.wipe hS1
              rw [hw] at this
              exact this.acc (.inl rfl) (.inl rfl) h0D (noOwn this)
            · have off2 : ∀ b o, ¬ Forb G2 M1 (wipe σ own) b → H7 b = some o → upd H7 D (.dK (putK accV (.inl kk) yv)) b = some o := fun b o fn e => by
                rw [upd_ne (fun z => fn (by rw [z]; exact .inl (.inl rfl)))]; exact e
              have o8' := o8.rd
              rw [eF] at o8'
              exact (hac7.put o8' _).go (fun _ z _ => z) off2
          · cases hcl
        · cases hcl
      · -- left out
        rename_i εb htb
        refine ⟨G2, hKG, εa, false, εb, R6, htb, fun H6 R7 x7 => ?_⟩
        dsimp only
        rw [if_neg Bool.false_ne_true]
        have hown : ∀ i, md M1 i = .O → ¬ At σ2 i D := fun i hm ha => noOwn R6 i ⟨.inl hm, ha⟩
        have eF : Forb G2 M1 σ2 = Forb G2 M1 (wipe σ own) := by rw [← hw, forb_wipe hS1]
        refine ⟨by omega, εb, accV, accD, accK, ?_, x7 D _ (sm D _ hDi) hown, ?_, hmk, hcl⟩
        · have := R7.wipe hS1
          rw [hw] at this
          exact this
        · rw [← eF] at hac ⊢
          exact (hac.go (fun _ z _ => z) fun b o _ e => sm b o e).go (fun _ z _ => z) x7.off
      · cases hcl
  · -- the end
    have hi' : i = ds.length := by omega
    subst hi'
    rw [List.drop_length] at hcl
    injection hcl with z
    injection z with e1 e2
    subst e1 e2
    refine .inl ⟨hJ.stop _ H' (by rw [← hM1] at hkp ⊢; exact hkp) (Nat.le_refl _), ?_⟩
    have Rl : Rel (G.plus D) M (wipeE εi own) (wipe σ own) H' := by
      refine (R1.bp hD).leave (li := li) ?_
      rw [hM1]; exact Ri
    have eF2 : ∀ b, Forb G2 M1 (wipe σ own) b ↔ Forb (G.plus D) M σ b := fun b => by
      rw [forb_wipe hS1, forb_plus, forb_plus]
      subst hM1
      unfold wA
      rw [show Forb G1 (lockM M li) σ = Forb G M σ from forb_loop]
    have offD : ∀ b o, ¬ Forb (G.plus D) M σ b → H1 b = some o → H' b = some o := fun b o fn e => hkp b o (fun z => fn (forb_plus.mpr (.inr (by subst hM1; exact ownO_forb z)))) e
    have Ru : Rel (G.plus D) M (backE ε1 εi own) σ H' := Rel.unwipe (fun i hi d hl => by
      obtain ⟨v, g1, g2⟩ := R1.varS hl (hS i hi)
      exact ⟨v, g1, ((g2.avoid hD).less fun b z => forb_plus.mp z).mono offD⟩) R1.ios R1.lp hS Rl
    have nD : ¬ Forb G M σ D := fun z => R1.alloc D z hD
    obtain rfl : accK = kds := Option.some.inj (hmk.symm.trans h7)
    have hac2 : RDk G.K H' (wA D (Forb G M σ)) accV accK := hac.go (fun b z _ => (eF2 b).mpr (forb_plus.mpr z)) fun _ _ _ e => e
    have xx : Ext M σ H H' := x1.trans fun b o e hn => hkp b o (fun ⟨i, h1, h2⟩ => by
      subst hM1
      exact hn i (lock_O h1).1 h2) e
    refine f (.ref D) H' Ru.minus xx ⟨.dct nD hDi (hac2.go (fun b z _ => .inr z) fun _ _ _ e => e), fun _ _ => ⟨D, rfl, x1.none R1 hD, Ru, .dct hDi hac2⟩, fun _ => rfl⟩
/-- straight into a name -/
theorem ps_setDc {i : Nat} {y : Str} {py : Pos} {kx vx tg iter : Expr} {ifs : List Expr} {scope : Scope} {own : List (Str × Nat)} {pos spos : Pos} {wi : TI} {g : TG} {tt : TT} {tk tv : TE} (hc : X.calm = true) (hN : X.N.Nodup) (hy : X.N[i]? = some y) (hyl : X.env.scope.names.lookup y = some .local)
    (hsw : swapsWith (.DictComp kx vx [⟨tg, iter, ifs, 0⟩] scope pos) (some (.Name y py)) spos.line X.env = pure true) (hi : PI X tg iter wi) (ok : BlkOk X.N X.env.scope scope own)
    (hg : ∀ (s : Shared) (H : Hp) (C : Addr) (cl : List (Str × Addr)) (fp : List Addr), PG (X.blk s H scope (compEnvC scope cl C X.env) fp) tg g) (ht : ∀ (s : Shared) (H : Hp) (C : Addr) (cl : List (Str × Addr)) (fp : List Addr), PTs (X.blk s H scope (compEnvC scope cl C X.env) fp) ifs tt)
    (hk : ∀ (s : Shared) (H : Hp) (C : Addr) (cl : List (Str × Addr)) (fp : List Addr), PE (X.blk s H scope (compEnvC scope cl C X.env) fp) kx tk)
    (he : ∀ (s : Shared) (H : Hp) (C : Addr) (cl : List (Str × Addr)) (fp : List Addr), PE (X.blk s H scope (compEnvC scope cl C X.env) fp) vx tv) (hs : ∀ x, foldedSetIterable iter X.env x = pure x) :
    PS X (.Assign [.Name y py] (.DictComp kx vx [⟨tg, iter, ifs, 0⟩] scope pos) spos) (tAsg (tDc wi g tt tk tv (own.map (·.2))) (gName i)) := by
  refine ⟨fun pins s σ H D I h => ?_⟩
  rw [exec_Assign_Name_used _ _ _ _ hsw]
  refine wpAny_bind (wpAny_standAt (wpAny_bind ?_))
  show wpAny _ X.A (do let _ ← comprehension (.DictComp kx vx [⟨tg, iter, ifs, 0⟩] scope pos) scope X.env (firstIterPos [⟨tg, iter, ifs, 0⟩] pos) newDict false (eval iter X.env) (some (assign (.Name y py) X.env))) _ _ s
  have h : tDc wi g tt tk tv (own.map (·.2)) σ H (fun x H1 => gName i x σ H1 D.nx) := h
  refine wpAny_bind (thn (dc_core (Qf := fun _ s' => SP X pins D .next s') hc hN I hi ok hg ht hk he hs h fun L C s' m H' I' q hn f => ?_) fun _ s' hq => wpAny_pure (wpAny_pure hq))
  show wpAny _ _ (assign (.Name y py) X.env (.ref L)) _ _ _
  refine wpAny_assign_Name (store_ok2 (v := V.ref L) I' hN hy (.inl hyl) rfl (fun s2 I2 ⟨a, sb, ha⟩ => ?_) (.inr hyl))
  obtain ⟨f0, f1, f2, f3, f4, f5⟩ := f
  have haC : C ≠ a := by
    rcases ha with z | z
    · rw [z]; exact f1
    · exact fun e => f4 y a z e.symm
  refine ⟨m, hn.sameBut sb haC, fun h3 sb3 => ?_⟩
  exact ⟨_, H', I2.turned (t' := s2.toks) (fun b o hb e => (sb3.2 b hb).trans e) f0 f1 f3 f4 f5, q⟩
theorem dcomp_ok (Xo : XOk T Φ Gs k S X) (hK : G.K = X.K) {own : List Nat} {g : Tg} {it : CI} {t kc vc : C} {kx vx tg iter : Expr} {ifs : List Expr} {scope : Scope} {pos : Pos} (hS : ∀ i ∈ own, md M i = .S) (hlt : ∀ i ∈ own, i < S.N.length) (hg : ∀ i ∈ tgV g, i ∈ own)
    (hb : blkC S.N S.sc scope (ownOf S.N own) = true) (hn : ns iter = true) (hi : PI X tg iter (tI T Φ G M it))
    (pg : ∀ X', XOk T Φ Gs k (scopeIn S scope) X' → X'.K = X.K → PG X' tg (fun v σ H Q => ∃ G' : Gh, G'.K = X.K ∧ tG G' (lockM M (lockI it)) g v σ H Q))
    (pt : ∀ X', XOk T Φ Gs k (scopeIn S scope) X' → X'.K = X.K → PTs X' ifs (tTs T Φ X.K (lockM M (lockI it)) t))
    (pk : ∀ X', XOk T Φ Gs k (scopeIn S scope) X' → X'.K = X.K → PE X' kx (fun σ H Q => ∃ G' : Gh, G'.K = X.K ∧ tE T Φ G' (lockM M (lockI it)) kc σ H Q))
    (pe : ∀ X', XOk T Φ Gs k (scopeIn S scope) X' → X'.K = X.K → PE X' vx (fun σ H Q => ∃ G' : Gh, G'.K = X.K ∧ tE T Φ G' (lockM M (lockI it)) vc σ H Q)) :
    PE X (.DictComp kx vx [⟨tg, iter, ifs, 0⟩] scope pos) (tE T Φ G M (.p1 .mkD (.comp own g it t (.tup (.cons kc (.cons vc .nil)))))) ∧
    (∀ {i : Nat} {y : Str} {py spos : Pos}, X.N[i]? = some y → X.env.scope.names.lookup y = some .local → swapsWith (.DictComp kx vx [⟨tg, iter, ifs, 0⟩] scope pos) (some (.Name y py)) spos.line X.env = pure true →
      PS X (.Assign [.Name y py] (.DictComp kx vx [⟨tg, iter, ifs, 0⟩] scope pos) spos) (tAsg (tE T Φ G M (.p1 .mkD (.comp own g it t (.tup (.cons kc (.cons vc .nil)))))) (gName i))) := by
  have hN : X.N.Nodup := by rw [Xo.N]; exact Xo.nd
  have bk : BlkOk X.N X.env.scope scope (ownOf S.N own) := by rw [Xo.N, Xo.sc]; exact blkOk_by hb
  have inX : ∀ (s : Shared) (H : Hp) (C : Addr) (cl : List (Str × Addr)) (fp : List Addr), XOk T Φ Gs k (scopeIn S scope) (X.blk s H scope (compEnvC scope cl C X.env) fp) := fun s H C cl fp =>
    ⟨Xo.N, Xo.nd, by
      show relabel scope X.env = relS scope S.sc
      unfold relabel relS
      rw [← Xo.sc]; rfl, rfl, Xo.calm, rfl, Xo.gd, Xo.room, Xo.bl, Xo.gs, Xo.fns⟩
  have fs : ∀ x, foldedSetIterable iter X.env x = pure x := fun x => by
    cases iter <;> first | rfl | (simp [ns] at hn)
  have eo := own_of_ownOf (N := S.N) hlt
  have core : ∀ σ H Q, tE T Φ G M (.p1 .mkD (.comp own g it t (.tup (.cons kc (.cons vc .nil))))) σ H Q → tDc (tI T Φ G M it) (fun v σ H Q => ∃ G' : Gh, G'.K = X.K ∧ tG G' (lockM M (lockI it)) g v σ H Q) (tTs T Φ X.K (lockM M (lockI it)) t)
      (fun σ H Q => ∃ G' : Gh, G'.K = X.K ∧ tE T Φ G' (lockM M (lockI it)) kc σ H Q) (fun σ H Q => ∃ G' : Gh, G'.K = X.K ∧ tE T Φ G' (lockM M (lockI it)) vc σ H Q) ((ownOf S.N own).map (·.2)) σ H Q := fun σ H Q q => by
    obtain ⟨ε, r, ε', R, hd, f⟩ := q
    rw [eo]
    exact dcomp_core hK hS hg R hd f
  refine ⟨(pe_dc Xo.calm hN hi bk (fun s H C cl fp => pg _ (inX s H C cl fp) rfl) (fun s H C cl fp => pt _ (inX s H C cl fp) rfl) (fun s H C cl fp => pk _ (inX s H C cl fp) rfl) (fun s H C cl fp => pe _ (inX s H C cl fp) rfl) fs).imp core, fun {i y py spos} hy hl hsw => ?_⟩
  have := ps_setDc (i := i) Xo.calm hN hy hl hsw hi bk (fun s H C cl fp => pg _ (inX s H C cl fp) rfl) (fun s H C cl fp => pt _ (inX s H C cl fp) rfl) (fun s H C cl fp => pk _ (inX s H C cl fp) rfl) (fun s H C cl fp => pe _ (inX s H C cl fp) rfl) fs
  exact ⟨fun pins s σ H D I q => this.run pins s σ H D I (core σ H _ q)⟩
end
end VS

set_option maxHeartbeats 1000000
/-! V12: every expression that is a code reads as its worth. -/
namespace VS
open PySem PySem.Spec PyProof.Rows L2

section
variable {T : Tb} {Φ : Ph} {Gs : Gc} {k : Nat} {S : Sc} {X : Cx} {G : Gh} {M : List Md} {c : C} {e a : Expr}
theorem ROk.atom {fr : Bool} {ε : Ev} {σ : L2.St} {H H1 : Hp} {v : V} {d : D} (h : RD G.K H1 (Forb G M σ) v d) (m : isMut d = false) (i : isImm d = false) : ROk fr G M ε σ H H1 v d :=
  ⟨h, fun _ z => by rw [m] at z; exact Bool.noConfusion z, fun _ => i⟩
theorem ROk.old {ε : Ev} {σ : L2.St} {H H1 : Hp} {v : V} {d : D} (h : RD G.K H1 (Forb G M σ) v d) : ROk false G M ε σ H H1 v d := ⟨h, fun z => Bool.noConfusion z, fun z => Bool.noConfusion z⟩
theorem lit_ok {x : D} {v : V} (hd : ∀ ε, denE T Φ c ε = some (x, ε)) (hv : ∀ (K : PySem.W.Frag) (H : Hp) (F : AP), RD K H F v x) (m : isMut x = false) (i : isImm x = false) (h : PE X e (tC v)) : PE X e (tE T Φ G M c) := by
  refine h.imp fun σ H Q q => ?_
  obtain ⟨ε, d, ε', R, h1, f⟩ := q
  rw [hd] at h1
  injection h1 with z
  injection z with e1 e2
  subst e1 e2
  exact f v H R .refl (.atom (hv _ _ _) m i)
theorem var_ok (Xo : XOk T Φ Gs k S X) {i : Nat} {x : Str} {pos : Pos} (h : S.nm i x = true) (hm : md M i = .S) : PE X (.Name x pos) (tE T Φ G M (.var i)) := by
  refine (sb_var (T := T) (Φ := Φ) (G := G) (M := M) Xo h).imp fun σ H Q q => ?_
  obtain ⟨ε, d, ε', R, hd, f⟩ := q
  refine ⟨ε, d, ε', R, hd, fun v H1 R1 x1 o b => f v H1 R1 x1 (.old ?_)⟩
  obtain ⟨d', h5, h6⟩ := Option.map_eq_some_iff.mp (show (look ε i).map (fun d => (d, ε)) = some (d, ε') from hd)
  injection h6 with e1 e2
  subst e1 e2
  obtain ⟨w, g1, g2⟩ := R1.varS h5 hm
  have : σ[i]? = some (some v) := b
  rw [this] at g1
  have : v = w := Option.some.inj (Option.some.inj g1)
  rw [this]; exact g2
theorem and_ok {a1 b1 : C} {x : Expr} {y : Expr} {r : List Expr} {pos : Pos} (ha : PE X x (tE T Φ G M a1)) (hb : PE X (.BoolOp .And (y :: r) pos) (tE T Φ G M b1)) : PE X (.BoolOp .And (x :: y :: r) pos) (tE T Φ G M (.and_ a1 b1)) := by
  refine (pe_and ha hb).imp fun σ H Q q => ?_
  obtain ⟨ε, d, ε', R, hd, f⟩ := q
  obtain ⟨⟨d1, ε1⟩, h1, h2⟩ := Option.bind_eq_some_iff.mp (show (denE T Φ a1 ε).bind (fun (d, ε1) => match d with | .bl true => denE T Φ b1 ε1 | .bl false => some (D.bl false, ε1) | _ => none) = some (d, ε') from hd)
  refine ⟨ε, d1, ε1, R, h1, fun v H1 R1 x1 o => ?_⟩
  dsimp only at h2
  split at h2
  · refine ⟨true, o.rd.isbl, ?_⟩
    rw [if_pos rfl]
    exact ⟨ε1, d, ε', R1, h2, fun w H2 R2 x2 o2 => f w H2 R2 (x1.trans x2) (.old o2.rd)⟩
  · injection h2 with z
    injection z with e1 e2
    subst e1 e2
    refine ⟨false, o.rd.isbl, ?_⟩
    rw [if_neg Bool.false_ne_true]
    exact f _ _ R1 x1 (.old (.bl false))
  · cases h2
theorem or_ok {a1 b1 : C} {x : Expr} {y : Expr} {r : List Expr} {pos : Pos} (ha : PE X x (tE T Φ G M a1)) (hb : PE X (.BoolOp .Or (y :: r) pos) (tE T Φ G M b1)) : PE X (.BoolOp .Or (x :: y :: r) pos) (tE T Φ G M (.or_ a1 b1)) := by
  refine (pe_or ha hb).imp fun σ H Q q => ?_
  obtain ⟨ε, d, ε', R, hd, f⟩ := q
  obtain ⟨⟨d1, ε1⟩, h1, h2⟩ := Option.bind_eq_some_iff.mp (show (denE T Φ a1 ε).bind (fun (d, ε1) => match d with | .bl true => some (D.bl true, ε1) | .bl false => denE T Φ b1 ε1 | _ => none) = some (d, ε') from hd)
  refine ⟨ε, d1, ε1, R, h1, fun v H1 R1 x1 o => ?_⟩
  dsimp only at h2
  split at h2
  · injection h2 with z
    injection z with e1 e2
    subst e1 e2
    refine ⟨true, o.rd.isbl, ?_⟩
    rw [if_pos rfl]
    exact f _ _ R1 x1 (.old (.bl true))
  · refine ⟨false, o.rd.isbl, ?_⟩
    rw [if_neg Bool.false_ne_true]
    exact ⟨ε1, d, ε', R1, h2, fun w H2 R2 x2 o2 => f w H2 R2 (x1.trans x2) (.old o2.rd)⟩
  · cases h2
theorem orv_ok (hK : G.K = X.K) {a1 b1 : C} {x : Expr} {y : Expr} {r : List Expr} {pos : Pos} (ha : PE X x (tE T Φ G M a1)) (hb : PE X (.BoolOp .Or (y :: r) pos) (tE T Φ G M b1)) : PE X (.BoolOp .Or (x :: y :: r) pos) (tE T Φ G M (.orv a1 b1)) := by
  refine (pe_orT ha hb).imp fun σ H Q q => ?_
  obtain ⟨ε, d, ε', R, hd, f⟩ := q
  obtain ⟨⟨d1, ε1⟩, h1, h2⟩ := Option.bind_eq_some_iff.mp (show (denE T Φ a1 ε).bind (fun (d, ε1) => (truth d).bind fun c => if c then some (d, ε1) else denE T Φ b1 ε1) = some (d, ε') from hd)
  obtain ⟨c, h3, h4⟩ := Option.bind_eq_some_iff.mp h2
  refine ⟨ε, d1, ε1, R, h1, fun v H1 R1 x1 o => ⟨c, truV_ok (hK ▸ o.rd) h3, ?_⟩⟩
  cases c with
  | true =>
    rw [if_pos rfl] at h4
    injection h4 with z
    injection z with e1 e2
    subst e1 e2
    rw [if_pos rfl]
    exact f _ _ R1 x1 (.old o.rd)
  | false =>
    rw [if_neg Bool.false_ne_true] at h4
    rw [if_neg Bool.false_ne_true]
    exact ⟨ε1, d, ε', R1, h4, fun w H2 R2 x2 o2 => f w H2 R2 (x1.trans x2) (.old o2.rd)⟩
theorem ife_ok {t1 a1 b1 : C} {x y z : Expr} {pos : Pos} (ht : PT X x (tT T Φ G M t1)) (ha : PE X y (tE T Φ G M a1)) (hb : PE X z (tE T Φ G M b1)) : PE X (.IfExp x y z pos) (tE T Φ G M (.ife t1 a1 b1)) := by
  refine (pe_ifExp ht ha hb).imp fun σ H Q q => ?_
  obtain ⟨ε, d, ε', R, hd, f⟩ := q
  obtain ⟨⟨b, ε1⟩, h1, h2⟩ := Option.bind_eq_some_iff.mp (show (denT T Φ t1 ε).bind (fun (c, ε1) => if c then denE T Φ a1 ε1 else denE T Φ b1 ε1) = some (d, ε') from hd)
  refine ⟨ε, b, ε1, R, h1, fun H1 R1 x1 => ?_⟩
  dsimp only at h2 ⊢
  cases b with
  | true =>
    rw [if_pos rfl] at h2 ⊢
    exact ⟨ε1, d, ε', R1, h2, fun w H2 R2 x2 o2 => f w H2 R2 (x1.trans x2) (.old o2.rd)⟩
  | false =>
    rw [if_neg Bool.false_ne_true] at h2 ⊢
    exact ⟨ε1, d, ε', R1, h2, fun w H2 R2 x2 o2 => f w H2 R2 (x1.trans x2) (.old o2.rd)⟩
theorem marks2 {o1 o2 : CmpOp} {y z : Expr} (h : behindInMarks o2 z = false) : lastMarks [o1, o2] [y, z] = false := by
  unfold lastMarks
  unfold lastMarks
  exact h
/-- a chain's reading -/
theorem chain_core (Xo : XOk T Φ Gs k S X) (hK : G.K = X.K) {p q : P2} {o1 o2 : CmpOp} {a1 b1 c1 : C} (h1 : cmpOf p = some o1) {σ : L2.St} {H : Hp} {Q : VK} (w : tE T Φ G M (.chain p q a1 b1 c1) σ H Q) :
    tChain (r2 p X.K) (r2 q X.K) (tB T Φ G M a1) (tE T Φ G M b1) (tB T Φ G M c1) σ H Q := by
  obtain ⟨ε, r, ε', R, hd, f⟩ := w
  simp only [denE] at hd
  obtain ⟨⟨d, ε1⟩, g1, hd⟩ := Option.bind_eq_some_iff.mp hd
  obtain ⟨⟨e, ε2⟩, g2, hd⟩ := Option.bind_eq_some_iff.mp hd
  obtain ⟨d', g3, hd⟩ := Option.bind_eq_some_iff.mp hd
  obtain ⟨x, g4, hd⟩ := Option.bind_eq_some_iff.mp hd
  obtain ⟨bb, rfl⟩ := op2_bool h1 g4
  refine ⟨ε, d, ε1, R, g1, fun v H1 R1 x1 o b => ⟨ε1, e, ε2, R1, g2, fun u H2 R2 x2 o2 => ?_⟩⟩
  rw [← hK]
  refine ⟨_, d', e, _, R2.taken, (b.ext x2).late R2 g3, .of o2.rd, g4, fun z H3 oz => ⟨bb, oz.rd.isbl, ?_⟩⟩
  have R3 := R2.grow oz.same
  have x3 : Ext M σ H2 H3 := .of oz.same
  cases bb with
  | true =>
    rw [if_pos rfl]
    dsimp only at hd
    obtain ⟨⟨y, ε3⟩, g5, hd⟩ := Option.bind_eq_some_iff.mp hd
    obtain ⟨r', g6, g7⟩ := Option.map_eq_some_iff.mp hd
    injection g7 with e1 e2
    subst e1 e2
    refine ⟨ε2, y, ε3, R3, g5, fun w H4 R4 x4 o4 b4 => ⟨_, e, y, _, R4.taken, .of ((o2.rd.ext x3).ext x4), o4, g6, fin_op R4 (((x1.trans x2).trans x3).trans x4) fun v H5 R5 x5 o5 => f v H5 R5 x5 (.old o5.rd)⟩⟩
  | false =>
    rw [if_neg Bool.false_ne_true]
    injection hd with z
    injection z with e1 e2
    subst e1 e2
    exact f _ _ R3 ((x1.trans x2).trans x3) (.old (.bl false))
theorem chain_ok (Xo : XOk T Φ Gs k S X) (hK : G.K = X.K) {p q : P2} {o1 o2 : CmpOp} {a1 b1 c1 : C} {x y z : Expr} {pos : Pos} (h1 : cmpOf p = some o1) (h2 : cmpOf q = some o2) (ha : PE X x (tB T Φ G M a1)) (hb : PE X y (tE T Φ G M b1)) (hc : PE X z (tB T Φ G M c1)) :
    PE X (.Compare x [o1, o2] [y, z] pos) (tE T Φ G M (.chain p q a1 b1 c1)) := by
  obtain ⟨r1', n1, n2⟩ := cmp_rule Xo h1
  obtain ⟨r2', n3, n4⟩ := cmp_rule Xo h2
  exact (pe_chain r1' r2' ha hb hc (marks2 (nomark _ n3 n4))).imp fun σ H Q w => chain_core Xo hK (o2 := o2) h1 w
theorem denT_chain {p q : P2} {a1 b1 c1 : C} {ε : Ev} {b : Bool} {ε' : Ev} (h : denT T Φ (.chain p q a1 b1 c1) ε = some (b, ε')) : ∃ r, denE T Φ (.chain p q a1 b1 c1) ε = some (r, ε') ∧ truth r = some b := by
  simp only [denT] at h
  obtain ⟨⟨d, ε1⟩, g1, h⟩ := Option.bind_eq_some_iff.mp h
  obtain ⟨⟨e, ε2⟩, g2, h⟩ := Option.bind_eq_some_iff.mp h
  obtain ⟨d', g3, h⟩ := Option.bind_eq_some_iff.mp h
  obtain ⟨x, g4, h⟩ := Option.bind_eq_some_iff.mp h
  simp only [denE]
  dsimp only at h
  split at h
  · obtain ⟨⟨y, ε3⟩, g5, h⟩ := Option.bind_eq_some_iff.mp h
    obtain ⟨r', g6, h⟩ := Option.bind_eq_some_iff.mp h
    obtain ⟨b', g7, g8⟩ := Option.map_eq_some_iff.mp h
    injection g8 with e1 e2
    subst e1 e2
    refine ⟨r', ?_, g7⟩
    refine Option.bind_eq_some_iff.mpr ⟨(d, ε1), g1, Option.bind_eq_some_iff.mpr ⟨(e, ε2), g2, Option.bind_eq_some_iff.mpr ⟨d', g3, Option.bind_eq_some_iff.mpr ⟨_, g4, ?_⟩⟩⟩⟩
    exact Option.bind_eq_some_iff.mpr ⟨(y, ε3), g5, Option.map_eq_some_iff.mpr ⟨r', g6, rfl⟩⟩
  · injection h with z
    injection z with e1 e2
    subst e1 e2
    refine ⟨.bl false, ?_, rfl⟩
    exact Option.bind_eq_some_iff.mpr ⟨(d, ε1), g1, Option.bind_eq_some_iff.mpr ⟨(e, ε2), g2, Option.bind_eq_some_iff.mpr ⟨d', g3, Option.bind_eq_some_iff.mpr ⟨_, g4, rfl⟩⟩⟩⟩
  · cases h
theorem chainT_ok (Xo : XOk T Φ Gs k S X) (hK : G.K = X.K) {p q : P2} {o1 o2 : CmpOp} {a1 b1 c1 : C} {x y z : Expr} {pos : Pos} (h1 : cmpOf p = some o1) (h2 : cmpOf q = some o2) (ha : PE X x (tB T Φ G M a1)) (hb : PE X y (tE T Φ G M b1)) (hc : PE X z (tB T Φ G M c1)) :
    PT X (.Compare x [o1, o2] [y, z] pos) (tT T Φ G M (.chain p q a1 b1 c1)) := by
  obtain ⟨r1', n1, n2⟩ := cmp_rule Xo h1
  obtain ⟨r2', n3, n4⟩ := cmp_rule Xo h2
  refine tT_cmp (fun _ _ _ z => denT_chain z) (fun ε r ε' hd => ?_) (pt_chain r1' r2' ha hb hc (marks2 (nomark _ n3 n4))) fun σ H Q w => chain_core Xo hK (o2 := o2) h1 w
  simp only [denE] at hd
  obtain ⟨⟨d, ε1⟩, g1, hd⟩ := Option.bind_eq_some_iff.mp hd
  obtain ⟨⟨e, ε2⟩, g2, hd⟩ := Option.bind_eq_some_iff.mp hd
  obtain ⟨d', g3, hd⟩ := Option.bind_eq_some_iff.mp hd
  obtain ⟨x, g4, hd⟩ := Option.bind_eq_some_iff.mp hd
  dsimp only at hd
  split at hd
  · obtain ⟨⟨y, ε3⟩, g5, hd⟩ := Option.bind_eq_some_iff.mp hd
    obtain ⟨r', g6, g7⟩ := Option.map_eq_some_iff.mp hd
    injection g7 with e1 e2
    subst e1
    exact op2_bool h2 g6
  · injection hd with z
    injection z with e1 e2
    exact ⟨_, e1.symm⟩
  · cases hd
/-! tests by and, or, not -/
theorem pw_of {op : BoolOp} {es : List Expr} {pos : Pos} {t : TT} (h : PT X (.BoolOp op es pos) t) : PW X (.BoolOp op es pos) t := ⟨fun whole pins s σ H Q I q => h.run pins s σ H Q I q⟩
theorem andT_core {a1 b1 : C} {σ : L2.St} {H : Hp} {Q : Bool → Hp → Prop} (q : tT T Φ G M (.and_ a1 b1) σ H Q) : tAnd (tT T Φ G M a1) (tT T Φ G M b1) σ H Q := by
  obtain ⟨ε, b, ε', R, hd, f⟩ := q
  obtain ⟨⟨b1', ε1⟩, h1, h2⟩ := Option.bind_eq_some_iff.mp (show (denT T Φ a1 ε).bind (fun (c, ε1) => if c then denT T Φ b1 ε1 else some (false, ε1)) = some (b, ε') from hd)
  refine ⟨ε, b1', ε1, R, h1, fun H1 R1 x1 => ?_⟩
  dsimp only at h2 ⊢
  cases b1' with
  | true =>
    rw [if_pos rfl] at h2 ⊢
    exact ⟨ε1, b, ε', R1, h2, fun H2 R2 x2 => f H2 R2 (x1.trans x2)⟩
  | false =>
    rw [if_neg Bool.false_ne_true] at h2 ⊢
    injection h2 with z
    injection z with e1 e2
    subst e1 e2
    exact f H1 R1 x1
theorem orT_core {a1 b1 : C} {σ : L2.St} {H : Hp} {Q : Bool → Hp → Prop} (q : tT T Φ G M (.or_ a1 b1) σ H Q) : tOr (tT T Φ G M a1) (tT T Φ G M b1) σ H Q := by
  obtain ⟨ε, b, ε', R, hd, f⟩ := q
  obtain ⟨⟨b1', ε1⟩, h1, h2⟩ := Option.bind_eq_some_iff.mp (show (denT T Φ a1 ε).bind (fun (c, ε1) => if c then some (true, ε1) else denT T Φ b1 ε1) = some (b, ε') from hd)
  refine ⟨ε, b1', ε1, R, h1, fun H1 R1 x1 => ?_⟩
  dsimp only at h2 ⊢
  cases b1' with
  | false =>
    rw [if_neg Bool.false_ne_true] at h2 ⊢
    exact ⟨ε1, b, ε', R1, h2, fun H2 R2 x2 => f H2 R2 (x1.trans x2)⟩
  | true =>
    rw [if_pos rfl] at h2 ⊢
    injection h2 with z
    injection z with e1 e2
    subst e1 e2
    exact f H1 R1 x1
theorem chkAs_ns : ∀ {ms : List Md} {as : Cs} {es : List Expr}, chkAs T Gs S M ms as es = true → ∀ e ∈ es, ns e = true
  | [], as, es, h, e, he => by
    cases as <;> cases es <;> first | (simp [chkAs] at h; done) | (cases he; done)
  | m :: ms, as, es, h, e, he => by
    cases as with
    | nil => cases m <;> simp [chkAs] at h
    | cons c r =>
      cases es with
      | nil => cases he
      | cons e' es =>
        have ih := fun h' => chkAs_ns (ms := ms) (as := r) (es := es) h' e
        cases m with
        | S =>
          simp only [chkAs, Bool.and_eq_true] at h
          rcases List.mem_cons.mp he with z | z
          · rw [z]; exact h.1.2
          · exact ih h.2 z
        | B =>
          simp only [chkAs, Bool.and_eq_true] at h
          rcases List.mem_cons.mp he with z | z
          · rw [z]; exact h.1.2
          · exact ih h.2 z
        | O =>
          cases c <;> cases e' <;> first | (simp [chkAs] at h; done) | skip
          simp only [chkAs, Bool.and_eq_true] at h
          rcases List.mem_cons.mp he with z | z
          · rw [z]; rfl
          · exact ih h.2 z
        | L => cases c <;> simp [chkAs] at h
end

section
variable {T : Tb} {Φ : Ph} {Gs : Gc} {k : Nat}
mutual
theorem sE : ∀ (c : C) {S : Sc} {M : List Md} {e : Expr} {X : Cx} {G : Gh}, XOk T Φ Gs k S X → G.K = X.K → chkE T Gs S M c e = true → PE X e (tE T Φ G M c)
  | .var i, S, M, e, X, G, Xo, hK, h => by
    cases e <;> first | (simp [chkE] at h; done) | skip
    simp only [chkE, Bool.and_eq_true, decide_eq_true_eq] at h
    exact var_ok Xo h.1 h.2
  | .non, S, M, e, X, G, Xo, hK, h => by
    unfold chkE at h
    split at h <;> first | (rename_i q; cases q; done) | (cases h; done) | skip
    exact lit_ok (fun ε => rfl) (fun _ _ _ => .non) rfl rfl pe_non
  | .bl b, S, M, e, X, G, Xo, hK, h => by
    unfold chkE at h
    split at h <;> first | (rename_i q; cases q; done) | (cases h; done) | skip
    rename_i q
    cases q
    have := of_decide_eq_true h
    subst this
    exact lit_ok (fun ε => rfl) (fun _ _ _ => .bl _) rfl rfl pe_bl
  | .int b, S, M, e, X, G, Xo, hK, h => by
    unfold chkE at h
    split at h <;> first | (rename_i q; cases q; done) | (cases h; done) | skip
    rename_i q
    cases q
    have := of_decide_eq_true h
    subst this
    exact lit_ok (fun ε => rfl) (fun _ _ _ => .int _) rfl rfl pe_int
  | .str b, S, M, e, X, G, Xo, hK, h => by
    unfold chkE at h
    split at h <;> first | (rename_i q; cases q; done) | (cases h; done) | skip
    rename_i q
    cases q
    have := of_decide_eq_true h
    subst this
    exact lit_ok (fun ε => rfl) (fun _ _ _ => .str _) rfl rfl pe_str
  | .gint x i, S, M, e, X, G, Xo, hK, h => by
    cases e <;> first | (simp [chkE] at h; done) | skip
    simp only [chkE, Bool.and_eq_true, decide_eq_true_eq] at h
    obtain ⟨⟨rfl, g⟩, m⟩ := h
    obtain ⟨t, ht⟩ := Xo.gs _ m
    exact lit_ok (fun ε => rfl) (fun _ _ _ => .int _) rfl rfl (pe_glob (v := .int i) (Xo.gl g).1 ht ⟨t, rfl⟩ (Xo.gl g).2.1)
  | .p1 p a, S, M, e, X, G, Xo, hK, h => by
    cases p <;> simp only [chkE] at h <;> first
      | exact (sD a Xo hK h).1
      | (split at h
         · rename_i x hx
           exact p1_ok Xo hK hx (sb_ok Xo h fun r => sE a Xo hK r)
         · cases h)
  | .p2 p a b, S, M, e, X, G, Xo, hK, h => by
    simp only [chkE] at h
    split at h
    · rename_i x y hx
      simp only [Bool.and_eq_true] at h
      exact p2_ok Xo hK hx (sb_ok Xo h.1 fun r => sE a Xo hK r) (sb_ok Xo h.2 fun r => sE b Xo hK r)
    · cases h
  | .slc a lo hi, S, M, e, X, G, Xo, hK, h => by
    unfold chkE at h
    split at h <;> first | (rename_i q; cases q; done) | (cases h; done) | skip
    rename_i q
    cases q
    simp only [Bool.and_eq_true] at h
    exact slc_ok hK (sb_ok Xo h.1.1 fun r => sE a Xo hK r) (sO lo Xo hK h.1.2) (sO hi Xo hK h.2)
  | .and_ a b, S, M, e, X, G, Xo, hK, h => by
    unfold chkE at h
    split at h <;> first | (rename_i q; cases q; done) | (cases h; done) | skip
    · rename_i q
      cases q
      simp only [Bool.and_eq_true] at h
      exact and_ok (sE a Xo hK h.1) (pe_one (sE b Xo hK h.2))
    · rename_i q
      cases q
      simp only [Bool.and_eq_true] at h
      exact and_ok (sE a Xo hK h.1) (sE b Xo hK h.2)
  | .or_ a b, S, M, e, X, G, Xo, hK, h => by
    unfold chkE at h
    split at h <;> first | (rename_i q; cases q; done) | (cases h; done) | skip
    · rename_i q
      cases q
      simp only [Bool.and_eq_true] at h
      exact or_ok (sE a Xo hK h.1) (pe_one (sE b Xo hK h.2))
    · rename_i q
      cases q
      simp only [Bool.and_eq_true] at h
      exact or_ok (sE a Xo hK h.1) (sE b Xo hK h.2)
  | .orv a b, S, M, e, X, G, Xo, hK, h => by
    unfold chkE at h
    split at h <;> first | (rename_i q; cases q; done) | (cases h; done) | skip
    rename_i q
    cases q
    simp only [Bool.and_eq_true] at h
    exact orv_ok hK (sE a Xo hK h.1) (pe_one (sE b Xo hK h.2))
  | .ife t a b, S, M, e, X, G, Xo, hK, h => by
    unfold chkE at h
    split at h <;> first | (rename_i q; cases q; done) | (cases h; done) | skip
    rename_i q
    cases q
    simp only [Bool.and_eq_true] at h
    exact ife_ok (sT t Xo hK h.1.1) (sE a Xo hK h.1.2) (sE b Xo hK h.2)
  | .chain p q a b c, S, M, e, X, G, Xo, hK, h => by
    unfold chkE at h
    split at h <;> first | (rename_i q; cases q; done) | (cases h; done) | skip
    rename_i qq
    cases qq
    simp only [Bool.and_eq_true, decide_eq_true_eq] at h
    exact chain_ok Xo hK h.1.1.1.1 h.1.1.1.2 (sb_ok Xo h.1.1.2 fun r => sE a Xo hK r) (sE b Xo hK h.1.2) (sb_ok Xo h.2 fun r => sE c Xo hK r)
  | .lst as, S, M, e, X, G, Xo, hK, h => by
    cases e <;> first | (simp [chkE] at h; done) | skip
    exact lst_ok (sEs as Xo hK (by simpa [chkE] using h))
  | .tup as, S, M, e, X, G, Xo, hK, h => by
    cases e <;> first | (simp [chkE] at h; done) | skip
    exact tup_ok (sEs as Xo hK (by simpa [chkE] using h))
  | .call f as, S, M, e, X, G, Xo, hK, h => by
    unfold chkE at h
    split at h <;> first | (rename_i q; cases q; done) | (cases h; done) | skip
    rename_i q
    cases q
    split at h
    · rename_i df hf
      simp only [Bool.and_eq_true, decide_eq_true_eq, List.all_eq_true, Bool.not_eq_true', List.isEmpty_eq_false_iff] at h
      obtain ⟨⟨⟨⟨⟨h1, h2⟩, ⟨h3, hnp⟩, hkn⟩, h4⟩, h5⟩, h6⟩ := h
      exact call_ok Xo hK hf h1 h2 h3 hnp hkn h4 (fun i hi z => by have := h5 i hi; rw [List.contains_iff_mem.mpr z] at this; cases this) h6 (sAs  as Xo hK h3)
    · cases h
  | .comp own g it t el, S, M, e, X, G, Xo, hK, h => by
    unfold chkE at h
    split at h <;> first | (rename_i q; cases q; done) | (cases h; done) | skip
    rename_i elt tg iter ifs isa scope pos q
    cases q
    simp only [Bool.and_eq_true, decide_eq_true_eq, List.all_eq_true] at h
    obtain ⟨⟨⟨⟨⟨⟨⟨⟨rfl, h1⟩, h2⟩, h3⟩, h4⟩, h5⟩, h6⟩, h7⟩, h8⟩ := h
    refine (comp_ok Xo hK (fun i hi => (h4 i hi).1) (fun i hi => (h4 i hi).2) (fun i hi => List.contains_iff_mem.mp (h5 i hi)) h3 h2 (sI it Xo hK h1) (fun X' Xo' e' => ?_) (fun X' Xo' e' => ?_) fun X' Xo' e' => ?_).1
    · exact PG.ex (X := X') (t := fun G' => tG G' (lockM M (lockI it)) g) (fun G' hG => tg_ok Xo' hG h6) |> fun z => by rw [e'] at z; exact z
    · split at h8
      · split at h8
        · refine ⟨fun pins s σ H Q I q => pts_nil.run pins s σ H Q I ?_⟩
          obtain ⟨G', hG, ε, b, ε', R, hd, f⟩ := q
          injection hd with z
          injection z with e1 e2
          subst e1 e2
          exact f H R .refl
        · cases h8
      · have := PT.ex (X := X') (t := fun G' => tT T Φ G' (lockM M (lockI it)) t) (fun G' hG => sT t Xo' hG h8)
        rw [e'] at this
        exact pts_one this
      · cases h8
    · have := PE.ex (X := X') (t := fun G' => tE T Φ G' (lockM M (lockI it)) el) (fun G' hG => sE el Xo' hG h7)
      rw [e'] at this
      exact this
theorem sD : ∀ (c : C) {S : Sc} {M : List Md} {e : Expr} {X : Cx} {G : Gh}, XOk T Φ Gs k S X → G.K = X.K → chkD T Gs S M c e = true → PE X e (tE T Φ G M (.p1 .mkD c)) ∧ ∀ {i : Nat} {y : Str} {py spos : Pos}, X.N[i]? = some y → X.env.scope.names.lookup y = some .local → swapsWith e (some (.Name y py)) spos.line X.env = pure true → PS X (.Assign [.Name y py] e spos) (tAsg (tE T Φ G M (.p1 .mkD c)) (gName i))
  | .comp own g it t (.tup (.cons kc (.cons vc .nil))), S, M, e, X, G, Xo, hK, h => by
    unfold chkD at h
    split at h <;> first | (rename_i q; cases q; done) | (cases h; done) | skip
    rename_i kx vx tg iter ifs isa scope pos q
    cases q
    simp only [Bool.and_eq_true, decide_eq_true_eq, List.all_eq_true] at h
    obtain ⟨⟨⟨⟨⟨⟨⟨⟨rfl, h1⟩, h2⟩, h3⟩, h4⟩, h5⟩, h6⟩, h7⟩, h8⟩ := h
    refine dcomp_ok Xo hK (fun i hi => (h4 i hi).1) (fun i hi => (h4 i hi).2) (fun i hi => List.contains_iff_mem.mp (h5 i hi)) h3 h2 (sI it Xo hK h1) (fun X' Xo' e' => ?_) (fun X' Xo' e' => ?_) (fun X' Xo' e' => ?_) fun X' Xo' e' => ?_
    · exact PG.ex (X := X') (t := fun G' => tG G' (lockM M (lockI it)) g) (fun G' hG => tg_ok Xo' hG h6) |> fun z => by rw [e'] at z; exact z
    · split at h8
      · split at h8
        · refine ⟨fun pins s σ H Q I q => pts_nil.run pins s σ H Q I ?_⟩
          obtain ⟨G', hG, ε, b, ε', R, hd, f⟩ := q
          injection hd with z
          injection z with e1 e2
          subst e1 e2
          exact f H R .refl
        · cases h8
      · have := PT.ex (X := X') (t := fun G' => tT T Φ G' (lockM M (lockI it)) t) (fun G' hG => sT t Xo' hG h8)
        rw [e'] at this
        exact pts_one this
      · cases h8
    · have := PE.ex (X := X') (t := fun G' => tE T Φ G' (lockM M (lockI it)) kc) (fun G' hG => sE kc Xo' hG h7.1)
      rw [e'] at this
      exact this
    · have := PE.ex (X := X') (t := fun G' => tE T Φ G' (lockM M (lockI it)) vc) (fun G' hG => sE vc Xo' hG h7.2)
      rw [e'] at this
      exact this
  | .var _, S, M, e, X, G, Xo, hK, h => by simp [chkD] at h
  | .non, S, M, e, X, G, Xo, hK, h => by simp [chkD] at h
  | .bl _, S, M, e, X, G, Xo, hK, h => by simp [chkD] at h
  | .int _, S, M, e, X, G, Xo, hK, h => by simp [chkD] at h
  | .str _, S, M, e, X, G, Xo, hK, h => by simp [chkD] at h
  | .gint _ _, S, M, e, X, G, Xo, hK, h => by simp [chkD] at h
  | .p1 _ _, S, M, e, X, G, Xo, hK, h => by simp [chkD] at h
  | .p2 _ _ _, S, M, e, X, G, Xo, hK, h => by simp [chkD] at h
  | .slc _ _ _, S, M, e, X, G, Xo, hK, h => by simp [chkD] at h
  | .and_ _ _, S, M, e, X, G, Xo, hK, h => by simp [chkD] at h
  | .or_ _ _, S, M, e, X, G, Xo, hK, h => by simp [chkD] at h
  | .orv _ _, S, M, e, X, G, Xo, hK, h => by simp [chkD] at h
  | .ife _ _ _, S, M, e, X, G, Xo, hK, h => by simp [chkD] at h
  | .chain _ _ _ _ _, S, M, e, X, G, Xo, hK, h => by simp [chkD] at h
  | .lst _, S, M, e, X, G, Xo, hK, h => by simp [chkD] at h
  | .call _ _, S, M, e, X, G, Xo, hK, h => by simp [chkD] at h
  | .tup _, S, M, e, X, G, Xo, hK, h => by simp [chkD] at h
  | .comp _ _ _ _ (.var _), S, M, e, X, G, Xo, hK, h => by simp [chkD] at h
  | .comp _ _ _ _ (.non), S, M, e, X, G, Xo, hK, h => by simp [chkD] at h
  | .comp _ _ _ _ (.bl _), S, M, e, X, G, Xo, hK, h => by simp [chkD] at h
  | .comp _ _ _ _ (.int _), S, M, e, X, G, Xo, hK, h => by simp [chkD] at h
  | .comp _ _ _ _ (.str _), S, M, e, X, G, Xo, hK, h => by simp [chkD] at h
  | .comp _ _ _ _ (.gint _ _), S, M, e, X, G, Xo, hK, h => by simp [chkD] at h
  | .comp _ _ _ _ (.p1 _ _), S, M, e, X, G, Xo, hK, h => by simp [chkD] at h
  | .comp _ _ _ _ (.p2 _ _ _), S, M, e, X, G, Xo, hK, h => by simp [chkD] at h
  | .comp _ _ _ _ (.slc _ _ _), S, M, e, X, G, Xo, hK, h => by simp [chkD] at h
  | .comp _ _ _ _ (.and_ _ _), S, M, e, X, G, Xo, hK, h => by simp [chkD] at h
  | .comp _ _ _ _ (.or_ _ _), S, M, e, X, G, Xo, hK, h => by simp [chkD] at h
  | .comp _ _ _ _ (.orv _ _), S, M, e, X, G, Xo, hK, h => by simp [chkD] at h
  | .comp _ _ _ _ (.ife _ _ _), S, M, e, X, G, Xo, hK, h => by simp [chkD] at h
  | .comp _ _ _ _ (.chain _ _ _ _ _), S, M, e, X, G, Xo, hK, h => by simp [chkD] at h
  | .comp _ _ _ _ (.lst _), S, M, e, X, G, Xo, hK, h => by simp [chkD] at h
  | .comp _ _ _ _ (.call _ _), S, M, e, X, G, Xo, hK, h => by simp [chkD] at h
  | .comp _ _ _ _ (.comp _ _ _ _ _), S, M, e, X, G, Xo, hK, h => by simp [chkD] at h
  | .comp _ _ _ _ (.tup .nil), S, M, e, X, G, Xo, hK, h => by simp [chkD] at h
  | .comp _ _ _ _ (.tup (.cons _ .nil)), S, M, e, X, G, Xo, hK, h => by simp [chkD] at h
  | .comp _ _ _ _ (.tup (.cons _ (.cons _ (.cons _ _)))), S, M, e, X, G, Xo, hK, h => by simp [chkD] at h
theorem sEs : ∀ (cs : Cs) {S : Sc} {M : List Md} {es : List Expr} {X : Cx} {G : Gh}, XOk T Φ Gs k S X → G.K = X.K → chkEs T Gs S M cs es = true → PA X es (tEs T Φ G M cs)
  | .nil, S, M, es, X, G, Xo, hK, h => by
    cases es with
    | nil => exact es_nil
    | cons => simp [chkEs] at h
  | .cons a r, S, M, es, X, G, Xo, hK, h => by
    cases es with
    | nil => simp [chkEs] at h
    | cons e es =>
      simp only [chkEs, Bool.and_eq_true] at h
      exact es_cons h.1.2 (sE a Xo hK h.1.1) (sEs r Xo hK h.2)
theorem sAs : ∀ (cs : Cs) {ms : List Md} {S : Sc} {M : List Md} {es : List Expr} {X : Cx} {G : Gh}, XOk T Φ Gs k S X → G.K = X.K → chkAs T Gs S M ms cs es = true → ArgsE T Φ G M X es cs
  | .nil, ms, S, M, es, X, G, Xo, hK, h => by
    cases es with
    | nil => trivial
    | cons =>
      cases ms with
      | nil => simp [chkAs] at h
      | cons m ms => cases m <;> simp [chkAs] at h
  | .cons a r, ms, S, M, es, X, G, Xo, hK, h => by
    cases ms with
    | nil => simp [chkAs] at h
    | cons m ms =>
      cases es with
      | nil => cases m <;> cases a <;> simp [chkAs] at h
      | cons e es =>
        cases m with
        | S =>
          simp only [chkAs, Bool.and_eq_true] at h
          refine ⟨h.1.2, ?_, sAs r Xo hK h.2⟩
          by_cases hv : ∃ i, a = .var i
          · obtain ⟨i, rfl⟩ := hv
            have h1 := h.1.1
            cases e <;> first | (simp [chkE] at h1; done) | skip
            simp only [chkE, Bool.and_eq_true, decide_eq_true_eq] at h1
            exact sb_var Xo h1.1
          · exact sb_of (fun i z => hv ⟨i, z⟩) (sE a Xo hK h.1.1)
        | B =>
          simp only [chkAs, Bool.and_eq_true] at h
          exact ⟨h.1.2, sb_ok Xo h.1.1 fun r => sE a Xo hK r, sAs r Xo hK h.2⟩
        | O =>
          cases a <;> cases e <;> first | (simp [chkAs] at h; done) | skip
          simp only [chkAs, Bool.and_eq_true, decide_eq_true_eq] at h
          exact ⟨rfl, sb_var Xo h.1.1, sAs r Xo hK h.2⟩
        | L => cases a <;> simp [chkAs] at h
theorem sO : ∀ (c : CO) {S : Sc} {M : List Md} {e : Option Expr} {X : Cx} {G : Gh}, XOk T Φ Gs k S X → G.K = X.K → chkO T Gs S M c e = true → PO X e (tOp1 T Φ G M c)
  | .none, S, M, e, X, G, Xo, hK, h => by
    cases e with
    | none => exact o_none
    | some => simp [chkO] at h
  | .some a, S, M, e, X, G, Xo, hK, h => by
    cases e with
    | none => simp [chkO] at h
    | some e => exact o_some (sE a Xo hK (by simpa [chkO] using h))
theorem sI : ∀ (it : CI) {S : Sc} {M : List Md} {e tg : Expr} {X : Cx} {G : Gh}, XOk T Φ Gs k S X → G.K = X.K → chkI T Gs S M (isTupE tg) it e = true → PI X tg e (tI T Φ G M it)
  | .seq a, S, M, e, tg, X, G, Xo, hK, h => by
    simp only [chkI] at h
    exact pi_seq Xo hK (sb_ok Xo h fun r => sE a Xo hK r) (fun i z => by subst z; simp [lockI])
  | .rng1 a, S, M, e, tg, X, G, Xo, hK, h => by
    unfold chkI at h
    split at h <;> first | (rename_i q; cases q; done) | (cases h; done) | skip
    rename_i q
    cases q
    simp only [Bool.and_eq_true, decide_eq_true_eq] at h
    exact pi_rng1 Xo h.1.1.1 h.1.1.2 h.2 (sE a Xo hK h.1.2)
  | .rng2 a b, S, M, e, tg, X, G, Xo, hK, h => by
    unfold chkI at h
    split at h <;> first | (rename_i q; cases q; done) | (cases h; done) | skip
    rename_i q
    cases q
    simp only [Bool.and_eq_true, decide_eq_true_eq] at h
    exact pi_rng2 Xo h.1.1.1.1.1 h.1.1.1.1.2 h.1.2 h.2 (sE a Xo hK h.1.1.1.2) (sE b Xo hK h.1.1.2)
  | .zip a b, S, M, e, tg, X, G, Xo, hK, h => by
    unfold chkI at h
    split at h <;> first | (rename_i q; cases q; done) | (cases h; done) | skip
    rename_i q
    cases q
    simp only [Bool.and_eq_true, decide_eq_true_eq] at h
    exact pi_zipO Xo hK h.1.1.1.1.1.1 h.1.1.1.1.1.2 h.1.1.1.1.2 h.1.2 h.2 (sb_ok Xo h.1.1.1.2 fun r => sE a Xo hK r) (sb_ok Xo h.1.1.2 fun r => sE b Xo hK r)
  | .enum a, S, M, e, tg, X, G, Xo, hK, h => by
    unfold chkI at h
    split at h <;> first | (rename_i q; cases q; done) | (cases h; done) | skip
    rename_i q
    cases q
    simp only [Bool.and_eq_true, decide_eq_true_eq] at h
    exact pi_enumO Xo hK h.1.1.1.1 h.1.1.1.2 h.1.1.2 h.2 (sb_ok Xo h.1.2 fun r => sE a Xo hK r)
theorem sT : ∀ (c : C) {S : Sc} {M : List Md} {e : Expr} {X : Cx} {G : Gh}, XOk T Φ Gs k S X → G.K = X.K → chkT T Gs S M c e = true → PT X e (tT T Φ G M c)
  | .and_ a b, S, M, e, X, G, Xo, hK, h => by
    unfold chkT at h
    split at h <;> first | contradiction | (rename_i q; cases q; done) | (cases h; done) | skip
    · rename_i q
      cases q
      simp only [Bool.and_eq_true] at h
      exact (PW.pt (pw_and (sT a Xo hK h.1) (pw_and1 (sT b Xo hK h.2)))).imp fun σ H Q q => andT_core q
    · rename_i q
      cases q
      simp only [Bool.and_eq_true] at h
      exact (PW.pt (pw_and (sT a Xo hK h.1) (pw_of (sT b Xo hK h.2)))).imp fun σ H Q q => andT_core q
  | .or_ a b, S, M, e, X, G, Xo, hK, h => by
    unfold chkT at h
    split at h <;> first | contradiction | (rename_i q; cases q; done) | (cases h; done) | skip
    · rename_i q
      cases q
      simp only [Bool.and_eq_true] at h
      exact (PW.pt (pw_or (sT a Xo hK h.1) (pw_or1 (sT b Xo hK h.2)))).imp fun σ H Q q => orT_core q
    · rename_i q
      cases q
      simp only [Bool.and_eq_true] at h
      exact (PW.pt (pw_or (sT a Xo hK h.1) (pw_of (sT b Xo hK h.2)))).imp fun σ H Q q => orT_core q
  | .p1 p a, S, M, e, X, G, Xo, hK, h => by
    by_cases hp : p = .not_
    · subst hp
      unfold chkT at h
      split at h <;> first | contradiction | (rename_i q; cases q; done) | (cases h; done) | skip
      · rename_i q
        cases q
        refine (pt_not (sT a Xo hK h)).imp fun σ H Q q => ?_
        obtain ⟨ε, b, ε', R, hd, f⟩ := q
        obtain ⟨⟨b1, ε1⟩, h1, h2⟩ := Option.map_eq_some_iff.mp (show (denT T Φ a ε).map (fun (c, ε1) => (!c, ε1)) = some (b, ε') from hd)
        injection h2 with e1 e2
        subst e1 e2
        exact ⟨ε, b1, ε1, R, h1, f⟩
      · rename_i n1 heq n2
        injection heq with z1 z2
        exact absurd z1.symm n1
    · have h' : (match syn1 S p e with | some x => bOr S a x (chkE T Gs S M a x) | none => false) = true := by
        cases p <;> first | exact h | exact absurd rfl hp
      split at h'
      · rename_i x hx
        exact p1T_ok Xo hK hp hx (sb_ok Xo h' fun r => sE a Xo hK r)
      · cases h'
  | .p2 p a b, S, M, e, X, G, Xo, hK, h => by
    simp only [chkT] at h
    split at h
    · rename_i x y hx
      simp only [Bool.and_eq_true] at h
      exact p2T_ok Xo hK hx (sb_ok Xo h.1 fun r => sE a Xo hK r) (sb_ok Xo h.2 fun r => sE b Xo hK r)
    · cases h
  | .bl b, S, M, e, X, G, Xo, hK, h => by
    unfold chkT at h
    split at h <;> first | contradiction | (rename_i q; cases q; done) | (cases h; done) | skip
    rename_i q
    cases q
    have := of_decide_eq_true h
    subst this
    exact tT_val hK rfl (fun ε b' ε' hd => by injection hd with z; injection z with e1 e2; subst e1 e2; exact ⟨_, rfl, rfl⟩) (lit_ok (fun ε => rfl) (fun _ _ _ => .bl _) rfl rfl pe_bl)
  | .var i, S, M, e, X, G, Xo, hK, h => by
    cases e <;> first | (simp [chkT] at h; done) | skip
    exact tT_var Xo hK (by simpa [chkT] using h)
  | .chain p q a b c, S, M, e, X, G, Xo, hK, h => by
    unfold chkT at h
    split at h <;> first | contradiction | (rename_i q; cases q; done) | (cases h; done) | skip
    rename_i qq
    cases qq
    simp only [Bool.and_eq_true, decide_eq_true_eq] at h
    exact chainT_ok Xo hK h.1.1.1.1 h.1.1.1.2 (sb_ok Xo h.1.1.2 fun r => sE a Xo hK r) (sE b Xo hK h.1.2) (sb_ok Xo h.2 fun r => sE c Xo hK r)
  | .call f as, S, M, e, X, G, Xo, hK, h => by
    unfold chkT at h
    split at h <;> first | contradiction | (rename_i q; cases q; done) | (cases h; done) | skip
    rename_i q
    cases q
    split at h
    · rename_i df hf
      simp only [Bool.and_eq_true, decide_eq_true_eq, List.all_eq_true, Bool.not_eq_true', List.isEmpty_eq_false_iff] at h
      obtain ⟨⟨⟨⟨⟨h1, h2⟩, ⟨h3, hnp⟩, hkn⟩, h4⟩, h5⟩, h6⟩ := h
      exact tT_val hK rfl (fun _ _ _ z => den_callT z) (call_ok Xo hK hf h1 h2 h3 hnp hkn h4 (fun i hi z => by have := h5 i hi; rw [List.contains_iff_mem.mpr z] at this; cases this) h6 (sAs  as Xo hK h3))
    · cases h
  | .non, S, M, e, X, G, Xo, hK, h => by simp [chkT] at h
  | .orv _ _, S, M, e, X, G, Xo, hK, h => by simp [chkT] at h
  | .int _, S, M, e, X, G, Xo, hK, h => by simp [chkT] at h
  | .str _, S, M, e, X, G, Xo, hK, h => by simp [chkT] at h
  | .gint _ _, S, M, e, X, G, Xo, hK, h => by simp [chkT] at h
  | .slc _ _ _, S, M, e, X, G, Xo, hK, h => by simp [chkT] at h
  | .ife _ _ _, S, M, e, X, G, Xo, hK, h => by simp [chkT] at h
  | .lst _, S, M, e, X, G, Xo, hK, h => by simp [chkT] at h
  | .tup _, S, M, e, X, G, Xo, hK, h => by simp [chkT] at h
  | .comp _ _ _ _ _, S, M, e, X, G, Xo, hK, h => by simp [chkT] at h
end
end
end VS

set_option maxHeartbeats 1000000
/-! V13: statements. -/
namespace VS
open PySem PySem.Spec PyProof.Rows L2

/-- what a def hands back -/
structure RV (fr : Bool) (G : Gh) (ε : Ev) (v : V) (d : D) (H : Hp) : Prop where
  rd : RD G.K H G.F v d
  frame : ∀ b o, ¬ G.ioA b → G.H0 b = some o → H b = some o
  there : ∀ q ∈ G.pin, H q.2.1 ≠ none
  outs : ∀ q ∈ G.pin, ∀ d', look ε q.1 = some d' → RDT G.K H G.F (.ref q.2.1) d'
  new : fr = true → isMut d = true → ∃ p, v = .ref p ∧ G.H0 p = none ∧ ¬ G.ioA p ∧ H p ≠ none ∧ RDT G.K H (wA p G.F) v d ∧ ∀ q ∈ G.pin, ∀ d', look ε q.1 = some d' → RDT G.K H (wA p G.F) (.ref q.2.1) d'
  imm : fr = true → isImm d = false
def tR (G : Gh) (Mo Ml : Option (List Md)) (fr : Bool) (D : Ends) (r : R) : Prop := match r with
  | .nx ε' => ∀ M', Mo = some M' → ∀ σ' H', Rel G M' ε' σ' H' → D.nx σ' H'
  | .rt d ε' => ∀ v H', RV fr G ε' v d H' → D.rt v H'
  | .bk ε' => ∀ M', Ml = some M' → ∀ σ' H', Rel G M' ε' σ' H' → D.bk σ' H'
  | .ct ε' => ∀ M', Ml = some M' → ∀ σ' H', Rel G M' ε' σ' H' → D.ct σ' H'
def tS (T : Tb) (Φ : Ph) (G : Gh) (M : List Md) (Mo Ml : Option (List Md)) (fr : Bool) (s : VS.S) : TS := fun D σ H => ∃ ε r, Rel G M ε σ H ∧ denS T Φ s ε = some r ∧ tR G Mo Ml fr D r
def tSs (T : Tb) (Φ : Ph) (G : Gh) (M : List Md) (Mo Ml : Option (List Md)) (fr : Bool) (s : Ss) : TS := fun D σ H => ∃ ε r, Rel G M ε σ H ∧ denSs T Φ s ε = some r ∧ tR G Mo Ml fr D r
def Pin (Pn : List Nat) (G : Gh) : Prop := ∀ p ∈ G.pin, p.1 ∈ Pn

section
variable {T : Tb} {Φ : Ph} {Gs : Gc} {k : Nat} {S : Sc} {X : Cx} {G : Gh} {M : List Md} {c : C} {e a : Expr} {fr : Bool} {Pn : List Nat} {Ml Mo : Option (List Md)}
theorem PS.imp {st : Stmt} {t t' : TS} (h : PS X st t) (i : ∀ D σ H, t' D σ H → t D σ H) : PS X st t' := ⟨fun pins s σ H D I q => h.run pins s σ H D I (i D σ H q)⟩
theorem PS.ex {P : Gh → Prop} {st : Stmt} {t : Gh → TS} (h : ∀ G : Gh, G.K = X.K → P G → PS X st (t G)) : PS X st (fun D σ H => ∃ G : Gh, G.K = X.K ∧ P G ∧ t G D σ H) :=
  ⟨fun pins s σ H D I ⟨G, hK, p, q⟩ => (h G hK p).run pins s σ H D I q⟩
theorem PSs.imp {st : List Stmt} {t t' : TS} (h : PSs X st t) (i : ∀ D σ H, t' D σ H → t D σ H) : PSs X st t' := ⟨fun pins s σ H D I q => h.run pins s σ H D I (i D σ H q)⟩
/-! modes may be given up -/
theorem pinO {ε : Ev} {σ : L2.St} {H : Hp} (R : Rel G M ε σ H) : ∀ p ∈ G.pin, md M p.1 ≠ .S ∧ md M p.1 ≠ .B := fun p hp => by
  obtain ⟨g1, _⟩ := R.ios p hp
  rw [g1]
  rcases R.pm p hp with q | q <;> rw [q] <;> exact ⟨by decide, by decide⟩
/-- pointwise: O may become S -/
def Ge (M M2 : List Md) : Prop := M.length = M2.length ∧ ∀ i, md M i = md M2 i ∨ (md M i = .O ∧ md M2 i = .S)
theorem ge_of : ∀ {a b : List Md}, geM a b = true → Ge a b
  | [], [], _ => ⟨rfl, fun _ => .inl rfl⟩
  | x :: a, y :: b, h => by
    simp only [geM, Bool.and_eq_true, Bool.or_eq_true, decide_eq_true_eq] at h
    obtain ⟨h1, h2⟩ := ge_of h.2
    refine ⟨by simp [h1], fun i => ?_⟩
    cases i with
    | zero =>
      rcases h.1 with q | q
      · exact .inl (by simp [md, q])
      · exact .inr (by simp [md, q])
    | succ i => exact h2 i
/-- .. but not what is pinned -/
theorem Rel.weak {M2 : List Md} {ε : Ev} {σ : L2.St} {H : Hp} (R : Rel G M ε σ H) (g : Ge M M2) (hp : ∀ p ∈ G.pin, md M2 p.1 ≠ .S) : Rel G M2 ε σ H := by
  -- one slot after another
  have step : ∀ n, n ≤ M.length → Rel G (M2.take n ++ M.drop n) ε σ H := by
    intro n
    induction n with
    | zero => intro _; simpa using R
    | succ n ih =>
      intro hn
      have R1 := ih (by omega)
      have hM : n < M.length := by omega
      have hM2 : n < M2.length := by rw [← g.1]; exact hM
      have hl : (M2.take n ++ M.drop n).length = M.length := by simp; omega
      have e : M2.take (n + 1) ++ M.drop (n + 1) = (M2.take n ++ M.drop n).set n (M2[n]) := by
        refine List.ext_getElem? fun j => ?_
        by_cases q : n = j
        · subst q
          rw [List.getElem?_set_self (by omega), List.getElem?_append_left (by simp; omega), List.getElem?_take_of_lt (by omega), List.getElem?_eq_getElem hM2]
        · rw [List.getElem?_set_ne q]
          by_cases hj : j < n
          · rw [List.getElem?_append_left (by simp; omega), List.getElem?_append_left (by simp; omega), List.getElem?_take_of_lt (by omega), List.getElem?_take_of_lt hj]
          · rw [List.getElem?_append_right (by simp; omega), List.getElem?_append_right (by simp; omega), List.getElem?_drop, List.getElem?_drop]
            congr 1
            simp
            omega
      have hmd : md (M2.take n ++ M.drop n) n = md M n := by
        unfold md
        rw [List.getElem?_append_right (by simp; omega), List.getElem?_drop]
        have : n + (n - (M2.take n).length) = n := by simp; omega
        rw [this]
      have hmd2 : md M2 n = M2[n] := by unfold md; rw [List.getElem?_eq_getElem hM2]
      rw [e]
      rcases g.2 n with q | ⟨q1, q2⟩
      · have : (M2.take n ++ M.drop n).set n (M2[n]) = M2.take n ++ M.drop n := by
          refine List.ext_getElem? fun j => ?_
          by_cases qq : n = j
          · subst qq
            rw [List.getElem?_set_self (by omega), List.getElem?_append_right (by simp; omega), List.getElem?_drop]
            have e3 : n + (n - (M2.take n).length) = n := by simp; omega
            rw [e3, List.getElem?_eq_getElem hM]
            rw [hmd2] at q
            unfold md at q
            rw [List.getElem?_eq_getElem hM] at q
            simpa using q.symm
          · rw [List.getElem?_set_ne qq]
        rw [this]; exact R1
      · rw [hmd2] at q2
        rw [q2]
        refine R1.demote (fun p hp' z => ?_) (.inl (by rw [hmd, q1])) (by omega)
        refine hp p hp' ?_
        rw [z, hmd2, q2]
  have := step M.length (Nat.le_refl _)
  rw [List.drop_length, List.append_nil, g.1, List.take_length] at this
  exact this
theorem Rel.weak' {M2 : List Md} {ε ε0 : Ev} {σ σ0 : L2.St} {H H0 : Hp} (R : Rel G M ε σ H) (g : geM M M2 = true) (R0 : ∀ p ∈ G.pin, md M2 p.1 ≠ .S) : Rel G M2 ε σ H := R.weak (ge_of g) R0
theorem meet_ge : ∀ {a b r : List Md}, meetM a b = some r → Ge a r ∧ Ge b r
  | [], [], r, h => by
    injection h with e; subst e
    exact ⟨⟨rfl, fun _ => .inl rfl⟩, ⟨rfl, fun _ => .inl rfl⟩⟩
  | [], _ :: _, r, h => by simp [meetM] at h
  | _ :: _, [], r, h => by simp [meetM] at h
  | x :: a, y :: b, r, h => by
    simp only [meetM] at h
    split at h
    · rename_i r' hr
      obtain ⟨⟨l1, g1⟩, ⟨l2, g2⟩⟩ := meet_ge hr
      split at h
      · rename_i e
        injection h with z
        subst z
        refine ⟨⟨by simp [l1], fun i => ?_⟩, ⟨by simp [l2], fun i => ?_⟩⟩
        · cases i with
          | zero => exact .inl rfl
          | succ i => exact g1 i
        · cases i with
          | zero => exact .inl (by simp [md, e])
          | succ i => exact g2 i
      · split at h
        · rename_i hn e
          injection h with z
          subst z
          refine ⟨⟨by simp [l1], fun i => ?_⟩, ⟨by simp [l2], fun i => ?_⟩⟩
          · cases i with
            | zero =>
              rcases e with ⟨e1, e2⟩ | ⟨e1, e2⟩
              · exact .inr (by simp [md, e1])
              · exact .inl (by simp [md, e1])
            | succ i => exact g1 i
          · cases i with
            | zero =>
              rcases e with ⟨e1, e2⟩ | ⟨e1, e2⟩
              · exact .inl (by simp [md, e2])
              · exact .inr (by simp [md, e2])
            | succ i => exact g2 i
        · cases h
    · cases h
/-! ### small statements -/
theorem swap_no {st : Option Expr} {l : Nat} {env : Env} (h : isComp e = false) : swapsWith e st l env = pure false := by
  cases e <;> first | rfl | (simp [isComp] at h)
theorem set_fin (o : Bool) {i : Nat} {ε ε1 : Ev} {σ : L2.St} {H H1 : Hp} {v : V} {d : D} (R : Rel G M ε σ H) (R1 : Rel G M ε1 σ H1) (x1 : Ext M σ H H1) (hi : ∀ p ∈ G.pin, p.1 ≠ i) (hl : i < M.length) (h : ROk (frC T c) G M ε1 σ H H1 v d) (ho : o = true → frC T c = true) :
    Rel G (M.set i (if o then .O else .S)) (putI ε1 i d) (σ.set i (some v)) H1 := by
  have hs : i < σ.length := by rw [← R1.ml]; exact hl
  cases o with
  | false => exact R1.setS hi hl hs h.rd
  | true =>
    have := ho rfl
    rw [this] at h
    exact R.setO R1 x1 hi hl hs h
theorem pins_ne (hP : Pin Pn G) {i : Nat} (h : Pn.contains i = false) : ∀ p ∈ G.pin, p.1 ≠ i := fun p hp z => by
  have := List.contains_iff_mem.mpr (hP p hp)
  rw [z, h] at this; cases this
theorem sw_eq {elt : Expr} {gs : List Comprehension} {scope : Scope} {pos py : Pos} {y : Str} {l : Nat} {env : Env} : swapsWith (.ListComp elt gs scope pos) (some (.Name y py)) l env =
    pure (env.blockKind == .function && env.kindOf y == some .local && py.line == pos.line && !(scope.names.any fun (n, k) => n == y && (k == .local || k == .cell))) := by
  unfold swapsWith
  rfl
theorem sw_eqD {kx vx : Expr} {gs : List Comprehension} {scope : Scope} {pos py : Pos} {y : Str} {l : Nat} {env : Env} : swapsWith (.DictComp kx vx gs scope pos) (some (.Name y py)) l env =
    pure (env.blockKind == .function && env.kindOf y == some .local && py.line == pos.line && !(scope.names.any fun (n, k) => n == y && (k == .local || k == .cell))) := by
  unfold swapsWith
  rfl
theorem st_set (Xo : XOk T Φ Gs k S X) (hK : G.K = X.K) (hP : Pin Pn G) {o : Bool} {i : Nat} {x : Str} {py pos : Pos} {v : Expr} (h1 : S.st i x = true) (h2 : Pn.contains i = false) (h3 : i < M.length) (h4 : chkE T Gs S M c v = true) (h5 : setOk S x py v = true) (h7 : o = true → frC T c = true) :
    PS X (.Assign [.Name x py] v pos) (tS T Φ G M (some (M.set i (if o then .O else .S))) Ml fr (.set o i c)) := by
  obtain ⟨g1, g2, g3⟩ := Xo.st h1
  have hN : X.N.Nodup := by rw [Xo.N]; exact Xo.nd
  have core : ∀ D σ H, tS T Φ G M (some (M.set i (if o then .O else .S))) Ml fr (.set o i c) D σ H → tAsg (tE T Φ G M c) (gName i) D σ H := fun D σ H q => by
    obtain ⟨ε, r, R, hd, f⟩ := q
    obtain ⟨⟨d, ε1⟩, w1, w2⟩ := Option.map_eq_some_iff.mp (show (denE T Φ c ε).map (fun (d, ε1) => VS.R.nx (putI ε1 i d)) = some r from hd)
    subst w2
    exact ⟨ε, d, ε1, R, w1, fun v H1 R1 x1 ok => f _ rfl _ _ (set_fin o R R1 x1 (pins_ne hP h2) h3 ok h7)⟩
  by_cases hc : isComp v = true
  · cases v <;> first | (simp [isComp] at hc; done) | skip
    · rename_i elt gens scope cpos
      cases c <;> first | (simp [chkE] at h4; done) | skip
      · rename_i p a
        exfalso
        cases p <;> simp only [chkE] at h4 <;> first
          | (unfold chkD at h4; split at h4 <;> first | contradiction | (rename_i q; cases q; done) | (cases h4; done))
          | (split at h4
             · rename_i x' hx
               simp [syn1, nm1, synC] at hx
             · cases h4)
      · rename_i p a b
        simp only [chkE] at h4
        split at h4
        · rename_i x' y' hx
          simp [syn2] at hx
        · cases h4
      · rename_i own g it t el
        have h4' := h4
        unfold chkE at h4
        split at h4 <;> first | contradiction | (rename_i q; cases q; done) | (cases h4; done) | skip
        rename_i elt' tg iter ifs isa scope' pos' q1 q2
        cases q1
        cases q2
        simp only [Bool.and_eq_true, decide_eq_true_eq, List.all_eq_true] at h4
        obtain ⟨⟨⟨⟨⟨⟨⟨⟨rfl, k1⟩, k2⟩, k3⟩, k4⟩, k5⟩, k6⟩, k7⟩, k8⟩ := h4
        have hcomp := comp_ok Xo hK (t := t) (el := el) (elt := elt) (ifs := ifs) (pos := cpos) (fun i hi => (k4 i hi).1) (fun i hi => (k4 i hi).2) (fun i hi => List.contains_iff_mem.mp (k5 i hi)) k3 k2 (sI it Xo hK k1) (fun X' Xo' e' => by
            have := PG.ex (X := X') (t := fun G' => tG G' (lockM M (lockI it)) g) (fun G' hG => tg_ok Xo' hG k6)
            rw [e'] at this
            exact this) (fun X' Xo' e' => by
            split at k8
            · split at k8
              · refine ⟨fun pins s σ H Q I q => pts_nil.run pins s σ H Q I ?_⟩
                obtain ⟨G', hG, ε, b, ε', R, hd, f⟩ := q
                injection hd with z
                injection z with e1 e2
                subst e1 e2
                exact f H R .refl
              · cases k8
            · have := PT.ex (X := X') (t := fun G' => tT T Φ G' (lockM M (lockI it)) t) (fun G' hG => sT t Xo' hG k8)
              rw [e'] at this
              exact pts_one this
            · cases k8) (fun X' Xo' e' => by
            have := PE.ex (X := X') (t := fun G' => tE T Φ G' (lockM M (lockI it)) el) (fun G' hG => sE el Xo' hG k7)
            rw [e'] at this
            exact this)
        cases hbb : (X.env.blockKind == .function && X.env.kindOf x == some .local && py.line == cpos.line && !(scope.names.any fun (n, k) => n == x && (k == .local || k == .cell))) with
        | true =>
          have hl : X.env.scope.names.lookup x = some .local := by
            simp only [Bool.and_eq_true] at hbb
            exact eq_of_beq hbb.1.1.2
          refine PS.imp (hcomp.2 (i := i) g1 hl ?_) core
          rw [sw_eq, hbb]
        | false =>
          refine PS.imp (ps_set hN g1 g2 hcomp.1 ?_ g3) core
          rw [sw_eq, hbb]
    · simp [setOk] at h5
    · rename_i kx vx gens scope cpos
      cases c <;> first | (simp [chkE] at h4; done) | skip
      · rename_i p a
        have hp : p = .mkD := by
          cases p <;> first | rfl | (exfalso; simp only [chkE] at h4; split at h4; · rename_i x' hx; simp [syn1, nm1, synC] at hx
                                     · cases h4)
        subst hp
        simp only [chkE] at h4
        obtain ⟨d1, d2⟩ := sD a Xo hK h4
        cases hbb : (X.env.blockKind == .function && X.env.kindOf x == some .local && py.line == cpos.line && !(scope.names.any fun (n, k) => n == x && (k == .local || k == .cell))) with
        | true =>
          have hl : X.env.scope.names.lookup x = some .local := by
            simp only [Bool.and_eq_true] at hbb
            exact eq_of_beq hbb.1.1.2
          refine PS.imp (d2 (i := i) g1 hl ?_) core
          rw [sw_eqD, hbb]
        | false =>
          refine PS.imp (ps_set hN g1 g2 d1 ?_ g3) core
          rw [sw_eqD, hbb]
      · rename_i p a b
        simp only [chkE] at h4
        split at h4
        · rename_i x' y' hx
          simp [syn2] at hx
        · cases h4
  · have hc' : isComp v = false := by simpa using hc
    exact PS.imp (ps_set hN g1 g2 (sE c Xo hK h4) (swap_no hc') g3) core
end
end VS

set_option maxHeartbeats 1000000
/-! V14: small statements. -/
namespace VS
open PySem PySem.Spec PyProof.Rows L2

section
variable {T : Tb} {Φ : Ph} {Gs : Gc} {k : Nat} {S : Sc} {X : Cx} {G : Gh} {M : List Md} {c : C} {e a : Expr} {fr : Bool} {Pn : List Nat} {Ml Mo : Option (List Md)}

theorem st_pas {pos : Pos} : PS X (.Pass pos) (tS T Φ G M (some M) Ml fr .pas) := PS.imp ps_pass fun D σ H ⟨ε, r, R, hd, f⟩ => by
  obtain rfl := Option.some.inj hd
  exact f M rfl σ H R
theorem st_dead {st : Stmt} : PS X st (tS T Φ G M Mo Ml fr .dead) := PS.imp ps_never fun D σ H ⟨ε, r, R, hd, f⟩ => by cases hd
theorem st_brk {pos : Pos} {M2 : List Md} (g : geM M M2 = true) (hp : ∀ p ∈ G.pin, md M2 p.1 ≠ .S) : PS X (.Break pos) (tS T Φ G M none (some M2) fr .brk) := PS.imp ps_break fun D σ H ⟨ε, r, R, hd, f⟩ => by
  obtain rfl := Option.some.inj hd
  exact f M2 rfl σ H (R.weak (ge_of g) hp)
theorem st_cnt {pos : Pos} {M2 : List Md} (g : geM M M2 = true) (hp : ∀ p ∈ G.pin, md M2 p.1 ≠ .S) : PS X (.Continue pos) (tS T Φ G M none (some M2) fr .cnt) := PS.imp ps_continue fun D σ H ⟨ε, r, R, hd, f⟩ => by
  obtain rfl := Option.some.inj hd
  exact f M2 rfl σ H (R.weak (ge_of g) hp)
theorem st_ex {pos : Pos} (h : PE X e (tE T Φ G M c)) (hc : isComp e = false) : PS X (.Expr e pos) (tS T Φ G M (some M) Ml fr (.ex c)) := PS.imp (ps_expr h (swap_no hc)) fun D σ H ⟨ε, r, R, hd, f⟩ => by
  obtain ⟨⟨d, ε1⟩, w1, w2⟩ := Option.map_eq_some_iff.mp (show (denE T Φ c ε).map (fun (_, ε1) => VS.R.nx ε1) = some r from hd)
  subst w2
  exact ⟨ε, d, ε1, R, w1, fun v H1 R1 x1 ok => f M rfl σ H1 R1⟩
theorem isComp_tup {v : Expr} {tg : Expr} {env : Env} (h1 : isTupE tg = true) (h2 : isTupE v = false) : swappedStores [tg] v env = pure none := by
  cases tg <;> first | (simp [isTupE] at h1; done) | skip
  cases v <;> first | (simp [isTupE] at h2; done) | rfl
theorem st_tgt (Xo : XOk T Φ Gs k S X) (hK : G.K = X.K) {g : Tg} {tg : Expr} {pos : Pos} (h1 : isTupE tg = true) (h2 : isTupE e = false) (hc : isComp e = false) (h3 : chkTg S M g tg = true) (h : PE X e (tE T Φ G M c)) :
    PS X (.Assign [tg] e pos) (tS T Φ G M (some M) Ml fr (.tgt g c)) := by
  refine PS.imp (ps_asg h (tg_ok Xo hK h3) (swap_no hc) (isComp_tup h1 h2) ?_) fun D σ H ⟨ε, r, R, hd, f⟩ => ?_
  · cases tg <;> first | (simp [isTupE] at h1; done) | rfl
  · obtain ⟨⟨d, ε1⟩, w1, w2⟩ := Option.bind_eq_some_iff.mp (show (denE T Φ c ε).bind (fun (d, ε1) => (tgD g d ε1).map VS.R.nx) = some r from hd)
    obtain ⟨ε2, w3, w4⟩ := Option.map_eq_some_iff.mp w2
    subst w4
    exact ⟨ε, d, ε1, R, w1, fun v H1 R1 x1 ok => ⟨ε1, d, ε2, R1, ok.rd, w3, fun σ' R2 _ _ => f M rfl σ' H1 R2⟩⟩
theorem swp {x y : Str} {px py pt : Pos} {u w : Expr} {kt k2 pt2} {env : Env} (hu : ns u = true) (hw : ns w = true) (hk : (!([u, w].all (foldedForSure 8)) && [u, w].all (constantsAlone 8)) = false) :
    swappedStores [.Tuple [.Name x px, .Name y py] kt pt] (.Tuple [u, w] k2 pt2) env = pure none ∨
    (env.kindOf x = some .local ∧ env.kindOf y = some .local ∧ x ≠ y ∧ swappedStores [.Tuple [.Name x px, .Name y py] kt pt] (.Tuple [u, w] k2 pt2) env = pure (some [x, y])) := by
  unfold swappedStores
  dsimp only
  split
  · exact .inl rfl
  rw [if_neg (by
    intro h
    simp only [List.any_cons, List.any_nil, Bool.or_false, Bool.or_eq_true] at h
    rcases h with h | h
    · cases u <;> first | (cases h; done) | (simp [ns] at hu; done)
    · cases w <;> first | (cases h; done) | (simp [ns] at hw; done))]
  generalize hn : List.filterMap _ _ = names
  split
  · exact .inl rfl
  · rename_i hc
    simp only [Bool.not_eq_true, Bool.or_eq_false_iff, bne_eq_false_iff_eq, List.length_cons, List.length_nil] at hc
    split
    · exact .inl rfl
    · rename_i hf
      rw [(Bool.not_eq_true _).mp hf] at hk
      simp only [Bool.not_false, Bool.true_and] at hk
      rw [if_neg (by rw [hk]; decide)]
      right
      simp only [List.filterMap_cons, List.filterMap_nil] at hn
      by_cases hx : (env.kindOf x == some NameKind.local && px.line == (Option.map (fun x => x.pos.line) [Expr.Name x px, Expr.Name y py].head?).getD 0) = true
      · by_cases hy : (env.kindOf y == some NameKind.local && py.line == (Option.map (fun x => x.pos.line) [Expr.Name x px, Expr.Name y py].head?).getD 0) = true
        · simp only [if_pos hx, if_pos hy] at hn
          subst hn
          simp only [Bool.and_eq_true] at hx hy
          refine ⟨eq_of_beq hx.1, eq_of_beq hy.1, fun e => ?_, rfl⟩
          subst e
          have := hc.2
          simp [List.eraseDups_cons] at this
        · simp only [if_pos hx, if_neg hy] at hn
          subst hn
          have := hc.1
          simp at this
      · by_cases hy : (env.kindOf y == some NameKind.local && py.line == (Option.map (fun x => x.pos.line) [Expr.Name x px, Expr.Name y py].head?).getD 0) = true
        · simp only [if_neg hx, if_pos hy] at hn
          subst hn
          have := hc.1
          simp at this
        · simp only [if_neg hx, if_neg hy] at hn
          subst hn
          have := hc.1
          simp at this
theorem st_par (Xo : XOk T Φ Gs k S X) (hK : G.K = X.K) {g : Tg} {tg : Expr} {pos : Pos} (h1 : parOk tg e = true) (h3 : chkTg S M g tg = true) (hE : chkE T Gs S M c e = true) :
    PS X (.Assign [tg] e pos) (tS T Φ G M (some M) Ml fr (.tgt g c)) := by
  unfold parOk at h1
  split at h1
  · rename_i x px y py kt pt u w k2 pt2
    simp only [Bool.and_eq_true, Bool.not_eq_true'] at h1
    obtain ⟨⟨hu, hw⟩, hk⟩ := h1
    rcases swp (env := X.env) (x := x) (y := y) (px := px) (py := py) (kt := kt) (pt := pt) (k2 := k2) (pt2 := pt2) hu hw hk with hs | ⟨kx, ky, hne, hs⟩
    · refine PS.imp (ps_asg (sE c Xo hK hE) (tg_ok Xo hK h3) rfl hs) fun D σ H ⟨ε, r, R, hd, f⟩ => ?_
      obtain ⟨⟨d, ε1⟩, w1, w2⟩ := Option.bind_eq_some_iff.mp (show (denE T Φ c ε).bind (fun (d, ε1) => (tgD g d ε1).map VS.R.nx) = some r from hd)
      obtain ⟨ε2, w3, w4⟩ := Option.map_eq_some_iff.mp w2
      subst w4
      exact ⟨ε, d, ε1, R, w1, fun v H1 R1 x1 ok => ⟨ε1, d, ε2, R1, ok.rd, w3, fun σ' R2 _ _ => f M rfl σ' H1 R2⟩⟩
    · cases g <;> first | (simp [chkTg] at h3; done) | skip
      rename_i ga gb
      simp only [chkTg, Bool.and_eq_true] at h3
      obtain ⟨⟨⟨ha, hb⟩, _⟩, _⟩ := h3
      cases ga <;> first | (simp [chkTg] at ha; done) | skip
      cases gb <;> first | (simp [chkTg] at hb; done) | skip
      rename_i i j
      simp only [chkTg, Bool.and_eq_true, decide_eq_true_eq] at ha hb
      obtain ⟨⟨sx, mi⟩, li⟩ := ha
      obtain ⟨⟨sy, mj⟩, lj⟩ := hb
      obtain ⟨nx, _, _⟩ := Xo.st sx
      obtain ⟨ny, _, _⟩ := Xo.st sy
      have hij : i ≠ j := fun z => by
        subst z
        rw [nx] at ny
        injection ny with ny
        exact hne ny
      cases c <;> first | (simp [chkE] at hE; done) | skip
      · rename_i p a
        exfalso
        cases p <;> simp only [chkE] at hE <;> first
          | (unfold chkD at hE; split at hE <;> first | contradiction | (rename_i q; cases q; done) | (cases hE; done))
          | (split at hE
             · rename_i x' hx
               simp [syn1, nm1, synC] at hx
             · cases hE)
      · rename_i p a b
        simp only [chkE] at hE
        split at hE
        · rename_i x' y' hx
          simp [syn2] at hx
        · cases hE
      rename_i as
      have hE : chkEs T Gs S M as [u, w] = true := by simpa [chkE] using hE
      have hN : X.N.Nodup := by rw [Xo.N]; exact Xo.nd
      refine PS.imp (ps_par Xo.calm hN nx ny hij kx ky (sEs as Xo hK hE) hs) fun Dn σ H ⟨ε, r, R, hd, f⟩ => ?_
      obtain ⟨⟨d, ε1⟩, w1, w2⟩ := Option.bind_eq_some_iff.mp (show (denE T Φ (.tup as) ε).bind (fun (d, ε1) => (tgD (.tp (.nm i) (.nm j)) d ε1).map VS.R.nx) = some r from hd)
      obtain ⟨⟨ds, ε3⟩, w5, w6⟩ := Option.bind_eq_some_iff.mp (show (denEs T Φ as ε).bind (fun (ds, ε1) => if ds.length ≤ lim then some (VS.D.tup ds, ε1) else none) = some (d, ε1) from w1)
      dsimp only at w6
      split at w6
      · injection w6 with w6
        injection w6 with e1 e2
        subst e1 e2
        obtain ⟨ε2, w3, w4⟩ := Option.map_eq_some_iff.mp w2
        subst w4
        refine ⟨ε, ds, ε3, R, w5, fun vs H1 R1 x1 ok => ?_⟩
        cases ok with
        | nil => simp [tgD] at w3
        | @cons v1 vs1 d1 ds1 r1 ok =>
          cases ok with
          | nil => simp [tgD] at w3
          | @cons v2 vs2 d2 ds2 r2 ok =>
            cases ok with
            | cons r3 ok => simp [tgD] at w3
            | nil =>
              refine ⟨_, _, rfl, ?_⟩
              have w3 : some (putI (putI ε3 i d1) j d2) = some ε2 := w3
              injection w3 with w3
              subst w3
              have pin : ∀ l, md M l = .S → ∀ p ∈ G.pin, p.1 ≠ l := fun l hl p hp z => by
                have h4 := (R1.ios p hp).1
                rw [z, hl] at h4
                rcases R1.pm p hp with q | q <;> rw [q] at h4 <;> cases h4
              have hsi : i < σ.length := by rw [← R1.ml]; exact li
              have hsj : j < σ.length := by rw [← R1.ml]; exact lj
              have R2 := R1.setS (pin i mi) li hsi r1
              rw [setS_same mi li] at R2
              have r2' : RD G.K H1 (Forb G M (σ.set i (some v1))) v2 d2 := r2.less fun a fa => by
                rcases fa with fa | ⟨l, hl, hat⟩
                · exact .inl fa
                · refine .inr ⟨l, hl, ?_⟩
                  by_cases q : i = l
                  · subst q
                    rcases hl with q | q <;> rw [mi] at q <;> cases q
                  · unfold At at hat ⊢
                    rwa [List.getElem?_set_ne q] at hat
              have R3 := R2.setS (pin j mj) lj (by rw [List.length_set]; exact hsj) r2'
              rw [setS_same mj lj] at R3
              exact f M rfl _ H1 R3
      · cases w6
  · cases h1
/-- an own list -/
theorem Rel.ownL {ε : Ev} {σ : L2.St} {H : Hp} (R : Rel G M ε σ H) {i : Nat} {ds : List D} (h : look ε i = some (.lst ds)) : ∃ a xs, At σ i a ∧ H a = some (.lst xs) ∧ RDs G.K H (Forb G M σ) xs ds := by
  obtain ⟨v, h1, h2⟩ := R.var h
  obtain ⟨a, xs, rfl, h3, h4⟩ := h2.list
  exact ⟨a, xs, h1, h3, h4⟩
theorem lst_at {ε : Ev} {i : Nat} (h : lstAt ε i ≠ false) : ∃ ds, look ε i = some (.lst ds) := by
  unfold lstAt at h
  split at h
  · rename_i ds q; exact ⟨ds, q⟩
  · exact absurd rfl h
theorem at_inj {σ : L2.St} {i : Nat} {a b : Addr} (h : At σ i a) (g : At σ i b) : a = b := by
  have : some (some (V.ref a)) = some (some (V.ref b)) := h.symm.trans g
  injection this with this; injection this with this; injection this
theorem name_raw (Xo : XOk T Φ Gs k S X) {i : Nat} {x : Str} {pos : Pos} (h : S.nm i x = true) : PE X (.Name x pos) (tVar i) := by
  obtain ⟨h1, h2, h3, h4⟩ := Xo.nm h
  exact pe_var h1 h2 h3 h4
theorem few1 {cp : Pos} {env : Env} (h : ns e = true) : ((backTo cp (starEach [e] env)).all (fun x => !x.1) && (backToKw cp (keywordEach [] env)).all (fun x => x.1.isSome)
      && decide ([e].length + ([] : List Keyword).length + (if ([] : List Keyword).isEmpty then 0 else 1) < 30)) = true := by
  rw [star_ns h]; rfl
theorem st_app (Xo : XOk T Φ Gs k S X) {i : Nat} {x m : Str} {pp ap cp pos : Pos} (h1 : S.nm i x = true) (hm : m = "append") (hl : (ap.endLine == cp.line) = true) (hO : md M i = .O) (hn : ns e = true) (h : PE X e (tE T Φ G M c)) :
    PS X (.Expr (.Call (.Attribute (.Name x pp) m ap) [e] [] cp) pos) (tS T Φ G M (some M) Ml fr (.app i c)) := by
  subst hm
  refine PS.imp (ps_expr (pe_bm PySem.F.plainAttrs_list PySem.F.slot_list_append PySem.F.type_list_append mt_append (name_raw Xo h1) (pa_cons h pa_nil (star_ns hn)) rfl (few1 hn) hl (star_ns hn) rfl)) fun D σ H ⟨ε, r, R, hd, f⟩ => ?_
  replace hd : (if lstAt ε i = false then none else (denE T Φ c ε).bind fun (d, ε1) => (look ε1 i).bind fun x => match x with
    | .lst xs => if xs.length < lim then some (VS.R.nx (putI ε1 i (.lst (xs ++ [d])))) else none
    | _ => none) = some r := hd
  split at hd
  · cases hd
  · rename_i hla
    obtain ⟨es, q0⟩ := lst_at hla
    obtain ⟨a, ys, b1, b2, b3⟩ := R.ownL q0
    obtain ⟨⟨d, ε1⟩, w1, w2⟩ := Option.bind_eq_some_iff.mp hd
    obtain ⟨z, w3, w4⟩ := Option.bind_eq_some_iff.mp w2
    split at w4
    · rename_i xs
      split at w4
      · rename_i hlt
        obtain rfl := Option.some.inj w4
        refine ⟨_, b1, .inl ⟨rfl, ys, .of b2⟩, ε, d, ε1, R, w1, fun v H1 R1 x1 ok => ?_⟩
        obtain ⟨a', vs, c1, c2, c3⟩ := R1.ownL w3
        obtain rfl := at_inj b1 c1
        refine ⟨a, vs, v, rfl, rfl, c2, ?_, ?_⟩
        · rw [c3.length]; exact Nat.lt_of_lt_of_le hlt lim_le
        · exact f M rfl σ _ (R1.wr hO b1 (look_lt w3) (c3.append (.cons ok.rd .nil)))
      · cases w4
    · cases w4
theorem st_ext (Xo : XOk T Φ Gs k S X) {i : Nat} {x m : Str} {pp ap cp pos : Pos} (h1 : S.nm i x = true) (hm : m = "extend") (hl : (ap.endLine == cp.line) = true) (hO : md M i = .O) (hn : ns e = true) (h : PE X e (tB T Φ G M c)) :
    PS X (.Expr (.Call (.Attribute (.Name x pp) m ap) [e] [] cp) pos) (tS T Φ G M (some M) Ml fr (.ext i c)) := by
  subst hm
  refine PS.imp (ps_expr (pe_bm PySem.F.plainAttrs_list PySem.F.slot_list_extend PySem.F.type_list_extend mt_extend (name_raw Xo h1) (pa_cons h pa_nil (star_ns hn)) rfl (few1 hn) hl (star_ns hn) rfl)) fun D σ H ⟨ε, r, R, hd, f⟩ => ?_
  replace hd : (if lstAt ε i = false then none else (denE T Φ c ε).bind fun (d, ε1) => (look ε1 i).bind fun x => match x, d with
    | .lst xs, .lst ys => if xs.length + ys.length ≤ lim then some (VS.R.nx (putI ε1 i (.lst (xs ++ ys)))) else none
    | _, _ => none) = some r := hd
  split at hd
  · cases hd
  · rename_i hla
    obtain ⟨es, q0⟩ := lst_at hla
    obtain ⟨a, ys, b1, b2, b3⟩ := R.ownL q0
    obtain ⟨⟨d, ε1⟩, w1, w2⟩ := Option.bind_eq_some_iff.mp hd
    obtain ⟨z, w3, w4⟩ := Option.bind_eq_some_iff.mp w2
    split at w4
    · rename_i xs zs
      split at w4
      · rename_i hlt
        obtain rfl := Option.some.inj w4
        refine ⟨_, b1, .inl ⟨rfl, ys, .of b2⟩, ε, _, ε1, R, w1, fun v H1 R1 x1 rd _ => ?_⟩
        obtain ⟨a', vs, c1, c2, c3⟩ := R1.ownL w3
        obtain rfl := at_inj b1 c1
        obtain ⟨b, us, rfl, d2, d3⟩ := rd.list
        refine ⟨a, b, vs, us, rfl, rfl, c2, d2, ?_, ?_⟩
        · rw [c3.length, d3.length]; exact Nat.le_trans hlt lim_le
        · exact f M rfl σ _ (R1.wr hO b1 (look_lt w3) (c3.append d3))
      · cases w4
    · cases w4
theorem st_clr (Xo : XOk T Φ Gs k S X) {i : Nat} {x m : Str} {pp ap cp pos : Pos} (h1 : S.nm i x = true) (hm : m = "clear") (hl : (ap.endLine == cp.line) = true) (hO : md M i = .O) :
    PS X (.Expr (.Call (.Attribute (.Name x pp) m ap) [] [] cp) pos) (tS T Φ G M (some M) Ml fr (.clr i)) := by
  subst hm
  refine PS.imp (ps_expr (pe_bm0 PySem.F.plainAttrs_list PySem.F.slot_list_clear PySem.F.type_list_clear mt_clear (name_raw Xo h1) rfl hl)) fun D σ H ⟨ε, r, R, hd, f⟩ => ?_
  obtain ⟨z, w3, w4⟩ := Option.bind_eq_some_iff.mp (show (look ε i).bind (fun x => match x with
    | .lst xs => some (VS.R.nx (putI ε i (.lst [])))
    | _ => none) = some r from hd)
  split at w4
  · obtain rfl := Option.some.inj w4
    obtain ⟨a, ys, b1, b2, b3⟩ := R.ownL w3
    exact ⟨_, b1, .inl ⟨rfl, ys, .of b2⟩, a, ys, rfl, rfl, b2, f M rfl σ _ (R.wr hO b1 (look_lt w3) .nil)⟩
  · cases w4
theorem st_sub (Xo : XOk T Φ Gs k S X) {i : Nat} {x : Str} {pp sp pos : Pos} {ix : Expr} {ci : C} (h1 : S.nm i x = true) (hO : md M i = .O) (hi : PE X ix (tE T Φ G M ci)) (hn : ns ix = true) (h : PE X e (tE T Φ G M c)) (hc : isComp e = false) :
    PS X (.Assign [.Subscript (.Name x pp) ix sp] e pos) (tS T Φ G M (some M) Ml fr (.sub i ci c)) := by
  refine PS.imp (ps_asg h (pg_sub (name_raw Xo h1) hi set_list ?_) (by simp only [swapsWithSole]; exact swap_no hc) ?_ ?_) fun D σ H ⟨ε, r, R, hd, f⟩ => ?_
  · intro v; cases ix <;> first | rfl | (simp [ns] at hn)
  · cases e <;> first | (simp [isComp] at hc; done) | rfl
  · rfl
  · replace hd : (if lstAt ε i = false then none else (denE T Φ c ε).bind fun (d, ε1) => (denE T Φ ci ε1).bind fun (k, ε2) => (look ε2 i).bind fun x => match x, k with
      | .lst xs, .int k => (ixN xs.length k).map fun j => VS.R.nx (putI ε2 i (.lst (xs.set j d)))
      | _, _ => none) = some r := hd
    split at hd
    · cases hd
    rename_i hla
    obtain ⟨es, q0⟩ := lst_at hla
    obtain ⟨a, ys, b1, b2, b3⟩ := R.ownL q0
    obtain ⟨⟨d, ε1⟩, w1, w2⟩ := Option.bind_eq_some_iff.mp hd
    obtain ⟨⟨kk, ε2⟩, w3, w4⟩ := Option.bind_eq_some_iff.mp w2
    obtain ⟨z, w5, w6⟩ := Option.bind_eq_some_iff.mp w4
    split at w6
    · rename_i xs j
      obtain ⟨n, w7, w8⟩ := Option.map_eq_some_iff.mp w6
      subst w8
      refine ⟨ε, d, ε1, R, w1, fun v H1 R1 x1 ok => ?_⟩
      refine ⟨_, b1, ε1, _, ε2, R1, w3, fun v2 H2 R2 x2 ok2 => ?_⟩
      obtain ⟨a', vs, c1, c2, c3⟩ := R2.ownL w5
      obtain rfl := at_inj b1 c1
      have hv2 : v2 = .int j := by have := ok2.rd; cases this; rfl
      subst hv2
      refine ⟨a, vs, j, n, rfl, rfl, c2, ?_, ?_⟩
      · rw [c3.length]; exact w7
      · exact f M rfl σ _ (R2.wr hO b1 (look_lt w5) (c3.set n (RD.ext x2 ok.rd)))
    · cases w6
theorem Rel.ownD {ε : Ev} {σ : L2.St} {H : Hp} (R : Rel G M ε σ H) {i : Nat} {ds : List (Key × D)} (h : look ε i = some (.dct ds)) : ∃ a xs, At σ i a ∧ H a = some (.dK xs) ∧ RDk G.K H (Forb G M σ) xs ds := by
  obtain ⟨v, h1, h2⟩ := R.var h
  obtain ⟨a, xs, rfl, h3, h4⟩ := h2.dict
  exact ⟨a, xs, h1, h3, h4⟩
theorem dct_at {ε : Ev} {i : Nat} (h : dctAt ε i ≠ false) : ∃ ds, look ε i = some (.dct ds) := by
  unfold dctAt at h
  split at h
  · rename_i ds q; exact ⟨ds, q⟩
  · exact absurd rfl h
/-- d[k] = v, k an int -/
def rSetD : V → V → V → Hp → (Hp → Prop) → Prop := fun o i v H Q => ∃ p kvs k, o = .ref p ∧ i = .int k ∧ H p = some (.dK kvs) ∧ kvs.length < sizeLine ∧ Q (upd H p (.dK (putK kvs (.inl k) v)))
theorem set_dict (hu : X.A.units + 1 < cLine) : PSet X rSetD := by
  intro pins s σ H o i v ov iv u Q I ro ri rv h
  obtain ⟨p, kvs, k, rfl, rfl, hp, hl, q⟩ := h
  cases ro
  exact d_setItem hu I (DPut.k (k := .inl k) hp hl) ri rv fun s' I' => ⟨_, I', q⟩
theorem st_dput (Xo : XOk T Φ Gs k S X) {i : Nat} {x : Str} {pp sp pos : Pos} {ix : Expr} {ci : C} (h1 : S.nm i x = true) (hO : md M i = .O) (hi : PE X ix (tE T Φ G M ci)) (hn : ns ix = true) (h : PE X e (tE T Φ G M c)) (hc : isComp e = false) :
    PS X (.Assign [.Subscript (.Name x pp) ix sp] e pos) (tS T Φ G M (some M) Ml fr (.dput i ci c)) := by
  refine PS.imp (ps_asg h (pg_sub (name_raw Xo h1) hi (set_dict (by have := Xo.hu; omega)) ?_) (by simp only [swapsWithSole]; exact swap_no hc) ?_ ?_) fun D σ H ⟨ε, r, R, hd, f⟩ => ?_
  · intro v; cases ix <;> first | rfl | (simp [ns] at hn)
  · cases e <;> first | (simp [isComp] at hc; done) | rfl
  · rfl
  · replace hd : (if dctAt ε i = false then none else (denE T Φ c ε).bind fun (d, ε1) => (denE T Φ ci ε1).bind fun (k, ε2) => (look ε2 i).bind fun x => match x, k with
      | .dct kvs, .int k => if kvs.length < lim then some (VS.R.nx (putI ε2 i (.dct (putKD kvs (.inl k) d)))) else none
      | _, _ => none) = some r := hd
    split at hd
    · cases hd
    rename_i hla
    obtain ⟨es, q0⟩ := dct_at hla
    obtain ⟨a, ys, b1, b2, b3⟩ := R.ownD q0
    obtain ⟨⟨d, ε1⟩, w1, w2⟩ := Option.bind_eq_some_iff.mp hd
    obtain ⟨⟨kk, ε2⟩, w3, w4⟩ := Option.bind_eq_some_iff.mp w2
    obtain ⟨z, w5, w6⟩ := Option.bind_eq_some_iff.mp w4
    split at w6
    · rename_i xs j
      split at w6
      · rename_i hlen
        cases w6
        refine ⟨ε, d, ε1, R, w1, fun v H1 R1 x1 ok => ?_⟩
        refine ⟨_, b1, ε1, _, ε2, R1, w3, fun v2 H2 R2 x2 ok2 => ?_⟩
        obtain ⟨a', vs, c1, c2, c3⟩ := R2.ownD w5
        obtain rfl := at_inj b1 c1
        have hv2 : v2 = .int j := by have := ok2.rd; cases this; rfl
        subst hv2
        refine ⟨a, vs, j, rfl, rfl, c2, ?_, ?_⟩
        · rw [c3.len]; exact Nat.lt_of_lt_of_le hlen lim_le
        · exact f M rfl σ _ (R2.wrD hO b1 (look_lt w5) (c3.put (RD.ext x2 ok.rd) _))
      · cases w6
    · cases w6
end
end VS

set_option maxHeartbeats 1000000
/-! V15: in-place operations, returns. -/
namespace VS
open PySem PySem.Spec PyProof.Rows L2

section
variable {T : Tb} {Φ : Ph} {Gs : Gc} {k : Nat} {S : Sc} {X : Cx} {G : Gh} {M : List Md} {c : C} {e a : Expr} {fr : Bool} {Pn : List Nat} {Ml Mo : Option (List Md)}

theorem Rel.free {ε : Ev} {σ : L2.St} {H : Hp} (R : Rel G M ε σ H) {p : Addr} (hp : H p = none) : G.H0 p = none ∧ ¬ G.ioA p ∧ ∀ i, ¬ OwnAt M σ i p := by
  have n1 : ∀ i, ¬ OwnAt M σ i p := fun i o => R.alloc p (.inr ⟨i, o⟩) hp
  have n2 : ¬ G.ioA p := fun ⟨q, hq, eo, e⟩ => by
    obtain ⟨h1, h2⟩ := R.ios q hq
    rw [eo] at h1
    exact n1 q.1 ⟨.inl h1, by rw [← e]; exact h2⟩
  refine ⟨?_, n2, n1⟩
  cases q : G.H0 p with
  | none => rfl
  | some o => rw [R.frame p o n2 q] at hp; cases hp
theorem st_appT (hK : G.K = X.K) {m : Str} {ap cp pos : Pos} {o : Expr} {ca : C} (hb : (match o with | .Call (.Name _ _) (_ :: _) _ _ => true | _ => false) = true) (hm : m = "append") (hl : (ap.endLine == cp.line) = true) (hf : frC T ca = true) (ho : PE X o (tE T Φ G M ca)) (hn : ns e = true) (h : ∀ G', G'.K = X.K → PE X e (tE T Φ G' M c)) :
    PS X (.Expr (.Call (.Attribute o m ap) [e] [] cp) pos) (tS T Φ G M (some M) Ml fr (.appT ca c)) := by
  subst hm
  refine PS.imp (ps_expr (pe_bm PySem.F.plainAttrs_list PySem.F.slot_list_append PySem.F.type_list_append mt_append ho (pa_cons (PE.ex h) pa_nil (star_ns hn)) ?_ (few1 hn) hl (star_ns hn) rfl)) fun D σ H ⟨ε, r, R, hd, f⟩ => ?_
  · split at hb
    · rfl
    · cases hb
  · obtain ⟨⟨d, ε1⟩, w1, w2⟩ := Option.bind_eq_some_iff.mp (show (denE T Φ ca ε).bind (fun (x, ε1) => (denE T Φ c ε1).bind fun (d, ε2) => match x with
      | .lst xs => if xs.length < lim then some (VS.R.nx ε2) else none
      | _ => none) = some r from hd)
    obtain ⟨⟨y, ε2⟩, w3, w4⟩ := Option.bind_eq_some_iff.mp w2
    dsimp only at w4
    split at w4
    · rename_i xs
      split at w4
      · rename_i hlt
        obtain rfl := Option.some.inj w4
        refine ⟨ε, _, ε1, R, w1, fun v H1 R1 x1 ok => ?_⟩
        rw [hf] at ok
        obtain ⟨p, rfl, hp, Rp, hT⟩ := ok.new rfl rfl
        obtain ⟨f0, f1, f2⟩ := R.free hp
        obtain ⟨p', ys, e1, e2, e3⟩ := hT.list
        injection e1 with e1
        subst e1
        refine ⟨.inl ⟨rfl, ys, .of e2⟩, G.plus p, hK, ε1, y, ε2, Rp, w3, fun v2 H2 R2 x2 ok2 => ?_⟩
        have e4 : H2 p = some (.lst ys) := x2 p _ e2 fun i hm ha => f2 i ⟨.inl hm, ha⟩
        refine ⟨p, ys, v2, rfl, rfl, e4, ?_, ?_⟩
        · rw [e3.length]; exact Nat.lt_of_lt_of_le hlt lim_le
        · exact f M rfl σ _ (R2.acc (.inl rfl) (.inl rfl) f0 f2).minus
      · cases w4
    · cases w4
def tip (p : P2) : TIp := fun x y H Q => match p with
  | .add => ipI (fun i j => i + j) x y H Q ∨ (∃ i j, x = .str i ∧ y = .str j ∧ i.length + j.length ≤ sizeLine ∧ Q (.str (i ++ j)) H)
  | .sub => ipI (fun i j => i - j) x y H Q
  | _ => False
theorem tip_ok {p : P2} {op : Operator} (h : opOf p = some op) : PIp X op (tip p) := by
  intro pins s σ H x y v u Q I r1 r2 q
  cases p <;> first | (simp [opOf] at h; done) | skip
  all_goals (injection h with e; subst e)
  · rcases q with q | q
    · exact ip_add pins s σ H x y v u Q I r1 r2 q
    · exact iop_add_str pins s σ H x y v u Q I r1 r2 q
  · exact ip_sub pins s σ H x y v u Q I r1 r2 q
  all_goals exact q.elim
theorem st_aug (Xo : XOk T Φ Gs k S X) {i : Nat} {x : Str} {pp pos : Pos} {p : P2} {op : Operator} (h1 : S.st i x = true) (hm : md M i = .S) (ho : opOf p = some op) (h : PE X e (tE T Φ G M c)) :
    PS X (.AugAssign (.Name x pp) op e pos) (tS T Φ G M (some M) Ml fr (.aug p i c)) := by
  obtain ⟨g1, g2, g3⟩ := Xo.st h1
  have hN : X.N.Nodup := by rw [Xo.N]; exact Xo.nd
  refine PS.imp (ps_aug hN g1 g2 h (tip_ok ho) g3) fun D σ H ⟨ε, r, R, hd, f⟩ => ?_
  obtain ⟨x0, w1, w2⟩ := Option.bind_eq_some_iff.mp (show (look ε i).bind (fun x => (denE T Φ c ε).bind fun (d, ε1) => (opA p x d).map fun r => VS.R.nx (putI ε1 i r)) = some r from hd)
  obtain ⟨⟨d, ε1⟩, w3, w4⟩ := Option.bind_eq_some_iff.mp w2
  obtain ⟨z, w5, w6⟩ := Option.map_eq_some_iff.mp w4
  subst w6
  obtain ⟨v0, b1, b2⟩ := R.var w1
  refine ⟨v0, b1, ε, d, ε1, R, w3, fun v H1 R1 x1 ok => ?_⟩
  have hs : i < σ.length := by rw [R.len]; exact look_lt w1
  have hi : i < M.length := by rw [R.ml]; exact hs
  have fin : ∀ w, RD G.K H1 (Forb G M σ) w z → D.nx (σ.set i (some w)) H1 := fun w hw => by
    have := R1.setS (v := w) (not_pin R hm) hi hs hw
    rw [setS_same hm hi] at this
    exact f M rfl _ _ this
  have rd := ok.rd
  unfold opA at w5
  split at w5
  · obtain rfl := Option.some.inj w5
    refine .inl ⟨_, _, b2.int, rd.isint, fin _ (.int _)⟩
  · rename_i s1 s2 _
    replace w5 : (if s1.length + s2.length ≤ lim then some (VS.D.str (s1 ++ s2)) else none) = some z := w5
    split at w5
    · rename_i hz
      obtain rfl := Option.some.inj w5
      exact .inr ⟨_, _, b2.str, rd.isstr, Nat.le_trans hz lim_le, fin _ (.str _)⟩
    · cases w5
  · obtain rfl := Option.some.inj w5
    exact ⟨_, _, b2.int, rd.isint, fin _ (.int _)⟩
  · cases w5
/-! ### returns -/
theorem RV.of {ε : Ev} {σ : L2.St} {H H1 : Hp} {v : V} {d : D} {ε1 : Ev} (R : Rel G M ε σ H) (R1 : Rel G M ε1 σ H1) {f : Bool} (hf : fr = true → f = true) (ok : ROk f G M ε1 σ H H1 v d) : RV fr G ε1 v d H1 where
  rd := ok.rd.less fun b z => .inl z
  frame := R1.frame
  there := fun q hq => by
    obtain ⟨g1, g2⟩ := R1.ios q hq
    refine R1.alloc _ (Forb.own (i := q.1) ?_ g2)
    rw [g1]; exact R1.pm q hq
  outs := fun q hq d' hl => by
    obtain ⟨g1, g2⟩ := R1.ios q hq
    obtain ⟨w, h1, h2⟩ := R1.var hl
    have : w = .ref q.2.1 := by
      have : some (some w) = some (some (V.ref q.2.1)) := h1.symm.trans g2
      injection this with this; injection this
    rw [this] at h2
    exact h2.less fun b z => .inl z
  new := fun e m => by
    obtain ⟨p, ev, hp, Rp, hT⟩ := ok.new (hf e) m
    obtain ⟨f0, f1, f2⟩ := R.free hp
    refine ⟨p, ev, f0, f1, Rp.alloc p (.inl (.inl rfl)), hT.less fun b z => ?_, fun q hq d' hl => ?_⟩
    · rcases z with z | z
      · exact .inl z
      · exact .inr (.inl z)
    · obtain ⟨g1, g2⟩ := Rp.ios q hq
      obtain ⟨w, h1, h2⟩ := Rp.var hl
      have : w = .ref q.2.1 := by
        have : some (some w) = some (some (V.ref q.2.1)) := h1.symm.trans g2
        injection this with this; injection this
      rw [this] at h2
      exact h2.less fun b z => .inl z
  imm := fun e => ok.imm (hf e)
theorem st_ret {pos : Pos} (h : PE X e (tE T Φ G M c)) (hf : fr = true → frC T c = true) : PS X (.Return (some e) pos) (tS T Φ G M none Ml fr (.ret c)) := PS.imp (ps_ret h) fun D σ H ⟨ε, r, R, hd, f⟩ => by
  obtain ⟨⟨d, ε1⟩, w1, w2⟩ := Option.map_eq_some_iff.mp (show (denE T Φ c ε).map (fun (d, ε1) => VS.R.rt d ε1) = some r from hd)
  subst w2
  exact ⟨ε, d, ε1, R, w1, fun v H1 R1 x1 ok => f v H1 (RV.of R R1 hf ok)⟩
theorem RV.atom {ε : Ev} {σ : L2.St} {H : Hp} {v : V} {d : D} (R : Rel G M ε σ H) (h : ∀ F, RD G.K H F v d) (m : isMut d = false) (i : isImm d = false) : RV fr G ε v d H :=
  RV.of (f := true) R R (fun _ => rfl) ⟨h _, fun _ z => (by rw [m] at z; cases z), fun _ => i⟩
theorem st_retN {pos : Pos} : PS X (.Return none pos) (tS T Φ G M none Ml fr .retN) := PS.imp ps_retN fun D σ H ⟨ε, r, R, hd, f⟩ => by
  obtain rfl := Option.some.inj hd
  exact f .non H (RV.atom R (fun _ => .non) rfl rfl)
theorem st_retO (Xo : XOk T Φ Gs k S X) {i : Nat} {x : Str} {pp pos : Pos} (h1 : S.nm i x = true) (hO : md M i = .O) (hl : i < M.length) (hi : ∀ p ∈ G.pin, p.1 ≠ i) : PS X (.Return (some (.Name x pp)) pos) (tS T Φ G M none Ml fr (.retO i)) := PS.imp (ps_ret (name_raw Xo h1)) fun D σ H ⟨ε, r, R, hd, f⟩ => by
  obtain ⟨d, w1, w2⟩ := Option.bind_eq_some_iff.mp (show (look ε i).bind (fun d => if isImm d then none else some (VS.R.rt d ε)) = some r from hd)
  split at w2
  · cases w2
  rename_i him
  obtain rfl := Option.some.inj w2
  have R1 := R.demote hi (.inl hO) hl
  obtain ⟨v, b1, b2⟩ := R1.varS w1 (by rw [md_set hl, if_pos rfl])
  obtain ⟨v', c1, c2⟩ := R.var w1
  obtain rfl : v = v' := by
    have : some (some v) = some (some v') := b1.symm.trans c1
    injection this with this; injection this
  refine ⟨v, b1, f v H ?_⟩
  have base := RV.of (fr := false) (f := false) R1 R1 (fun z => z) ⟨b2, fun z => Bool.noConfusion z, fun z => Bool.noConfusion z⟩
  refine ⟨base.rd, base.frame, base.there, base.outs, fun _ m => ?_, fun _ => by simpa using him⟩
  have hv : ∃ p, v = .ref p := by cases c2 with
    | of h => (cases h <;> first | exact ⟨_, rfl⟩ | (cases m; done))
    | _ => exact ⟨_, rfl⟩
  obtain ⟨p, rfl⟩ := hv
  have hio : ¬ G.ioA p := fun ⟨q, hq, eo, e⟩ => by
    obtain ⟨h1, h2⟩ := R.ios q hq
    rw [eo] at h1
    rw [e] at h2
    exact hi q hq (R.inj _ _ p ⟨.inl h1, h2⟩ ⟨.inl hO, c1⟩)
  have wf : ∀ b, wA p G.F b → Forb G M σ b := fun b z => by
    rcases z with z | z
    · rw [z]; exact Forb.own (.inl hO) c1
    · exact .inl z
  refine ⟨p, rfl, ?_, hio, R.alloc p (Forb.own (.inl hO) c1), c2.less wf, fun q hq d' hl => ?_⟩
  · rcases R.fresh i p hO c1 with z | z
    · exact z
    · exact absurd z hio
  · obtain ⟨g1, g2⟩ := R.ios q hq
    obtain ⟨w, h1, h2⟩ := R.var hl
    have : w = .ref q.2.1 := by
      have : some (some w) = some (some (V.ref q.2.1)) := h1.symm.trans g2
      injection this with this; injection this
    rw [this] at h2
    exact h2.less wf
end
end VS

set_option maxHeartbeats 1000000
/-! V16: every statement that is a code. -/
namespace VS
open PySem PySem.Spec PyProof.Rows L2

section
variable {T : Tb} {Φ : Ph} {Gs : Gc} {k : Nat} {S : Sc} {X : Cx} {G : Gh} {M : List Md} {c : C} {e a : Expr} {fr : Bool} {Pn : List Nat} {Ml Mo : Option (List Md)}
theorem PSs.ex {P : Gh → Prop} {st : List Stmt} {t : Gh → TS} (h : ∀ G : Gh, G.K = X.K → P G → PSs X st (t G)) : PSs X st (fun D σ H => ∃ G : Gh, G.K = X.K ∧ P G ∧ t G D σ H) :=
  ⟨fun pins s σ H D I ⟨G, hK, p, q⟩ => (h G hK p).run pins s σ H D I q⟩
theorem meet_md : ∀ {a b r : List Md} {i : Nat}, meetM a b = some r → md a i = md b i → md r i = md a i
  | [], [], r, i, h, _ => by injection h with e; subst e; rfl
  | [], _ :: _, r, i, h, _ => by simp [meetM] at h
  | _ :: _, [], r, i, h, _ => by simp [meetM] at h
  | x :: a, y :: b, r, i, h, g => by
    simp only [meetM] at h
    split at h
    · rename_i r' hr
      split at h
      · rename_i e
        injection h with z
        subst z
        cases i with
        | zero => rfl
        | succ i => exact meet_md (i := i) hr g
      · split at h
        · rename_i hn e
          injection h with z
          subst z
          cases i with
          | zero => exact absurd (show x = y from g) hn
          | succ i => exact meet_md (i := i) hr g
        · cases h
    · cases h
theorem md_lt {i : Nat} (h : md M i ≠ .S) : i < M.length := by
  unfold md at h
  cases q : M[i]? with
  | none => rw [q] at h; exact absurd rfl h
  | some x => exact (List.getElem?_eq_some_iff.mp q).1
theorem md_set' {i j : Nat} {m : Md} (h : i ≠ j) : md (M.set i m) j = md M j := by
  unfold md
  rw [List.getElem?_set_ne h]
theorem ne_of_pn {i j : Nat} (h : Pn.contains i = false) (hj : j ∈ Pn) : i ≠ j := fun z => by
  have := List.contains_iff_mem.mpr hj
  rw [← z, h] at this; cases this
/-! ### what is pinned keeps its mode -/
mutual
theorem pinS : ∀ (s : VS.S) {S : Sc} {fr : Bool} {Pn : List Nat} {Ml : Option (List Md)} {M M' : List Md} {st : Stmt}, chkS T Gs S fr Pn Ml s M st = some (some M') → ∀ i ∈ Pn, md M' i = md M i
  | .set o j e, S, fr, Pn, Ml, M, M', st, h, i, hi => by
    unfold chkS at h
    split at h <;> first | contradiction | skip
    rename_i q1
    cases q1
    split at h
    · rename_i g
      simp only [Bool.and_eq_true, Bool.not_eq_true'] at g
      injection h with h; injection h with h; subst h
      exact md_set' (ne_of_pn g.1.1.1.1.1.2 hi)
    · cases h
  | .dem j s, S, fr, Pn, Ml, M, M', st, h, i, hi => by
    unfold chkS at h
    split at h
    · rename_i g
      simp only [Bool.and_eq_true, Bool.not_eq_true'] at g
      rw [pinS s h i hi]
      exact md_set' (ne_of_pn g.1.2 hi)
    · cases h
  | .kil J s, S, fr, Pn, Ml, M, M', st, h, i, hi => by
    unfold chkS at h
    exact pinS s h i hi
  | .ifs t a b, S, fr, Pn, Ml, M, M', st, h, i, hi => by
    unfold chkS at h
    split at h <;> first | contradiction | skip
    rename_i q1
    cases q1
    split at h
    · split at h
      · rename_i r q hr hq
        cases r with
        | none =>
          cases q with
          | none => cases h
          | some q =>
            injection h with h; injection h with h; subst h
            exact pinSs b hq i hi
        | some r =>
          cases q with
          | none =>
            injection h with h; injection h with h; subst h
            exact pinSs a hr i hi
          | some q =>
            obtain ⟨m, h1, h2⟩ := Option.map_eq_some_iff.mp (show (meetM r q).map some = some (some M') from h)
            injection h2 with h2
            subst h2
            have e1 := pinSs a hr i hi
            have e2 := pinSs b hq i hi
            rw [meet_md h1 (e1.trans e2.symm), e1]
      · cases h
    · cases h
  | .fors J g it b, S, fr, Pn, Ml, M, M', st, h, i, hi => by
    unfold chkS at h
    split at h <;> first | contradiction | skip
    rename_i q1
    cases q1
    split at h
    · split at h
      · injection h with h; injection h with h; subst h; rfl
      · split at h
        · injection h with h; injection h with h; subst h; rfl
        · cases h
      · cases h
    · cases h
  | .whil J n t b, S, fr, Pn, Ml, M, M', st, h, i, hi => by
    unfold chkS at h
    split at h <;> first | contradiction | skip
    rename_i q1
    cases q1
    split at h
    · split at h
      · injection h with h; injection h with h; subst h; rfl
      · split at h
        · injection h with h; injection h with h; subst h; rfl
        · cases h
      · cases h
    · cases h
  | .tgt _ _, S, fr, Pn, Ml, M, M', st, h, i, hi => by
    unfold chkS at h
    split at h <;> first | contradiction | skip
    split at h <;> first | (injection h with h; injection h with h; subst h; rfl) | cases h
  | .par _ _ _ _, S, fr, Pn, Ml, M, M', st, h, i, hi => by
    unfold chkS at h
    cases h
  | .sub _ _ _, S, fr, Pn, Ml, M, M', st, h, i, hi => by
    unfold chkS at h
    split at h <;> first | contradiction | skip
    split at h <;> first | (injection h with h; injection h with h; subst h; rfl) | cases h
  | .dput _ _ _, S, fr, Pn, Ml, M, M', st, h, i, hi => by
    unfold chkS at h
    split at h <;> first | contradiction | skip
    split at h <;> first | (injection h with h; injection h with h; subst h; rfl) | cases h
  | .app _ _, S, fr, Pn, Ml, M, M', st, h, i, hi => by
    unfold chkS at h
    split at h <;> first | contradiction | skip
    split at h <;> first | (injection h with h; injection h with h; subst h; rfl) | cases h
  | .ext _ _, S, fr, Pn, Ml, M, M', st, h, i, hi => by
    unfold chkS at h
    split at h <;> first | contradiction | skip
    split at h <;> first | (injection h with h; injection h with h; subst h; rfl) | cases h
  | .clr _, S, fr, Pn, Ml, M, M', st, h, i, hi => by
    unfold chkS at h
    split at h <;> first | contradiction | skip
    split at h <;> first | (injection h with h; injection h with h; subst h; rfl) | cases h
  | .appT _ _, S, fr, Pn, Ml, M, M', st, h, i, hi => by
    unfold chkS at h
    split at h <;> first | contradiction | skip
    revert h
    generalize hb : (_ && _ : Bool) = bb
    intro h
    cases bb
    · cases h
    · injection h with h; injection h with h; subst h; rfl
  | .aug _ _ _, S, fr, Pn, Ml, M, M', st, h, i, hi => by
    unfold chkS at h
    split at h <;> first | contradiction | skip
    split at h <;> first | (injection h with h; injection h with h; subst h; rfl) | cases h
  | .ex _, S, fr, Pn, Ml, M, M', st, h, i, hi => by
    unfold chkS at h
    split at h <;> first | contradiction | skip
    split at h <;> first | (injection h with h; injection h with h; subst h; rfl) | cases h
  | .ret _, S, fr, Pn, Ml, M, M', st, h, i, hi => by
    unfold chkS at h
    split at h <;> first | contradiction | skip
    split at h <;> cases h
  | .retO _, S, fr, Pn, Ml, M, M', st, h, i, hi => by
    unfold chkS at h
    split at h <;> first | contradiction | skip
    split at h <;> cases h
  | .retN, S, fr, Pn, Ml, M, M', st, h, i, hi => by
    unfold chkS at h
    split at h <;> first | contradiction | cases h
  | .brk, S, fr, Pn, Ml, M, M', st, h, i, hi => by
    unfold chkS at h
    split at h <;> first | contradiction | skip
    split at h
    · split at h <;> cases h
    · cases h
  | .cnt, S, fr, Pn, Ml, M, M', st, h, i, hi => by
    unfold chkS at h
    split at h <;> first | contradiction | skip
    split at h
    · split at h <;> cases h
    · cases h
  | .pas, S, fr, Pn, Ml, M, M', st, h, i, hi => by
    unfold chkS at h
    split at h <;> first | contradiction | skip
    injection h with h; injection h with h; subst h; rfl
  | .dead, S, fr, Pn, Ml, M, M', st, h, i, hi => by
    unfold chkS at h
    cases h
theorem pinSs : ∀ (s : Ss) {S : Sc} {fr : Bool} {Pn : List Nat} {Ml : Option (List Md)} {M M' : List Md} {st : List Stmt}, chkSs T Gs S fr Pn Ml s M st = some (some M') → ∀ i ∈ Pn, md M' i = md M i
  | .nil, S, fr, Pn, Ml, M, M', st, h, i, hi => by
    unfold chkSs at h
    split at h <;> first | contradiction | skip
    injection h with h; injection h with h; subst h; rfl
  | .cons s r, S, fr, Pn, Ml, M, M', st, h, i, hi => by
    unfold chkSs at h
    split at h <;> first | contradiction | skip
    · rename_i q1
      cases q1
      exact pinS s h i hi
    · rename_i q1
      cases q1
      split at h
      · rename_i M2 hs
        exact (pinSs r h i hi).trans (pinS s hs i hi)
      · cases h
      · cases h
end
end
end VS

set_option maxHeartbeats 1000000
/-! V17: blocks, tests, loops; every statement that is a code. -/
namespace VS
open PySem PySem.Spec PyProof.Rows L2

section
variable {T : Tb} {Φ : Ph} {Gs : Gc} {k : Nat} {S : Sc} {X : Cx} {G : Gh} {M : List Md} {c : C} {e a : Expr} {fr : Bool} {Pn : List Nat} {Ml Mo : Option (List Md)}
theorem tR.weak {Ma : Option (List Md)} {D : Ends} {r : VS.R} (h : ∀ A, Ma = some A → ∃ B, Mo = some B ∧ Ge A B ∧ ∀ p ∈ G.pin, md B p.1 ≠ .S) (q : tR G Mo Ml fr D r) : tR G Ma Ml fr D r := by
  cases r with
  | nx ε' =>
    intro M' hM σ' H' R
    obtain ⟨B, h1, h2, h3⟩ := h M' hM
    exact q B h1 σ' H' (R.weak h2 h3)
  | rt d ε' => exact q
  | bk ε' => exact q
  | ct ε' => exact q
theorem Ge.refl {A : List Md} : Ge A A := ⟨rfl, fun _ => .inl rfl⟩
theorem join_weak {A B : Option (List Md)} (h : joinM A B = some Mo) (hA : ∀ A', A = some A' → ∀ p ∈ G.pin, md A' p.1 = md M p.1) (hB : ∀ A', B = some A' → ∀ p ∈ G.pin, md A' p.1 = md M p.1) (hM : ∀ p ∈ G.pin, md M p.1 ≠ .S) :
    (∀ A', A = some A' → ∃ B', Mo = some B' ∧ Ge A' B' ∧ ∀ p ∈ G.pin, md B' p.1 ≠ .S) ∧ (∀ A', B = some A' → ∃ B', Mo = some B' ∧ Ge A' B' ∧ ∀ p ∈ G.pin, md B' p.1 ≠ .S) := by
  cases A with
  | none =>
    cases B with
    | none => exact ⟨fun _ z => (by cases z), fun _ z => (by cases z)⟩
    | some b =>
      injection h with h; subst h
      refine ⟨fun _ z => (by cases z), fun A' z => ?_⟩
      injection z with z; subst z
      exact ⟨b, rfl, Ge.refl, fun p hp => by rw [hB b rfl p hp]; exact hM p hp⟩
  | some a =>
    cases B with
    | none =>
      injection h with h; subst h
      refine ⟨fun A' z => ?_, fun _ z => by cases z⟩
      injection z with z; subst z
      exact ⟨a, rfl, Ge.refl, fun p hp => by rw [hA a rfl p hp]; exact hM p hp⟩
    | some b =>
      obtain ⟨m, h1, h2⟩ := Option.map_eq_some_iff.mp (show (meetM a b).map some = some Mo from h)
      subst h2
      obtain ⟨g1, g2⟩ := meet_ge h1
      have pin : ∀ p ∈ G.pin, md m p.1 ≠ .S := fun p hp => by
        rw [meet_md h1 ((hA a rfl p hp).trans (hB b rfl p hp).symm), hA a rfl p hp]; exact hM p hp
      refine ⟨fun A' z => ?_, fun A' z => ?_⟩
      · injection z with z; subst z; exact ⟨m, rfl, g1, pin⟩
      · injection z with z; subst z; exact ⟨m, rfl, g2, pin⟩
theorem st_ifs {A B : Option (List Md)} {t : C} {sa sb : Ss} {x : Expr} {bx by' : List Stmt} {pos : Pos} (ht : PT X x (tT T Φ G M t)) (ha : PSs X bx (tSs T Φ G M A Ml fr sa)) (hb : PSs X by' (tSs T Φ G M B Ml fr sb))
    (hw : (∀ A', A = some A' → ∃ B', Mo = some B' ∧ Ge A' B' ∧ ∀ p ∈ G.pin, md B' p.1 ≠ .S) ∧ (∀ A', B = some A' → ∃ B', Mo = some B' ∧ Ge A' B' ∧ ∀ p ∈ G.pin, md B' p.1 ≠ .S)) :
    PS X (.If x bx by' pos) (tS T Φ G M Mo Ml fr (.ifs t sa sb)) := PS.imp (ps_if ht ha hb) fun D σ H ⟨ε, r, R, hd, f⟩ => by
  obtain ⟨⟨b, ε1⟩, w1, w2⟩ := Option.bind_eq_some_iff.mp (show (denT T Φ t ε).bind (fun (c, ε1) => if c then denSs T Φ sa ε1 else denSs T Φ sb ε1) = some r from hd)
  refine ⟨ε, b, ε1, R, w1, fun H1 R1 x1 => ?_⟩
  cases b with
  | true => exact ⟨ε1, r, R1, w2, f.weak hw.1⟩
  | false => exact ⟨ε1, r, R1, w2, f.weak hw.2⟩
/-- what a def hands back from within a loop -/
theorem RV.leave {ε ε1 : Ev} {σ : L2.St} {H H1 : Hp} {v : V} {d : D} {li : List Nat} (R1 : Rel G M ε1 σ H1) (h : RV fr (G.loop M li σ H1) ε v d H) : RV fr G ε v d H := by
  have out : ∀ q ∈ G.pin, ∃ q' ∈ (G.loop M li σ H1).pin, q'.1 = q.1 ∧ q'.2.1 = q.2.1 := fun q hq => by
    obtain ⟨g1, g2⟩ := R1.ios q hq
    by_cases z : q.1 ∈ li ∧ md M q.1 = .O
    · exact ⟨(q.1, q.2.1, .L), List.mem_append_left _ (mem_lpins.mpr ⟨z.1, z.2, g2, rfl⟩), rfl, rfl⟩
    · refine ⟨q, List.mem_append_right _ (List.mem_filter.mpr ⟨hq, ?_⟩), rfl, rfl⟩
      cases q1 : li.contains q.1 with
      | false => rfl
      | true =>
        have : md M q.1 ≠ .O := fun y => z ⟨List.contains_iff_mem.mp q1, y⟩
        simp [this]
  have fm : ∀ b o, ¬ G.ioA b → G.H0 b = some o → (G.loop M li σ H1).H0 b = some o := fun b o n e => by
    by_cases q : OwnO (lockM M li) σ b
    · rw [show (G.loop M li σ H1).H0 b = G.H0 b from if_pos q]; exact e
    · rw [show (G.loop M li σ H1).H0 b = H1 b from if_neg q]; exact R1.frame b o n e
  refine ⟨h.rd, fun b o n e => h.frame b o (fun z => n (loop_io z).1) (fm b o n e), fun q hq => ?_, fun q hq d' hl => ?_, fun f m => ?_, h.imm⟩
  · obtain ⟨q', h1, h2, h3⟩ := out q hq
    rw [← h3]; exact h.there q' h1
  · obtain ⟨q', h1, h2, h3⟩ := out q hq
    have := h.outs q' h1 d' (by rw [h2]; exact hl)
    rw [h3] at this; exact this
  · obtain ⟨p, ev, g0, g1, g2, g3, g4⟩ := h.new f m
    have nio : ¬ G.ioA p := fun ⟨q, hq, eo, e⟩ => by
      obtain ⟨k1, k2⟩ := R1.ios q hq
      rw [eo] at k1
      rw [e] at k2
      by_cases z : q.1 ∈ li ∧ md M q.1 = .O
      · by_cases ho : OwnO (lockM M li) σ p
        · obtain ⟨j, j1, j2⟩ := ho
          have := R1.inj j q.1 p (own_lock.mp ⟨.inl j1, j2⟩) ⟨.inl k1, k2⟩
          subst this
          exact (lock_O j1).2 z.1
        · rw [show (G.loop M li σ H1).H0 p = H1 p from if_neg ho] at g0
          exact R1.alloc p (Forb.own (.inl k1) k2) g0
      · refine g1 ⟨q, List.mem_append_right _ (List.mem_filter.mpr ⟨hq, ?_⟩), eo, e⟩
        cases q1 : li.contains q.1 with
        | false => rfl
        | true =>
          have : md M q.1 ≠ .O := fun y => z ⟨List.contains_iff_mem.mp q1, y⟩
          simp [this]
    refine ⟨p, ev, ?_, nio, g2, g3, fun q hq d' hl => ?_⟩
    · cases z : G.H0 p with
      | none => rfl
      | some o => rw [fm p o nio z] at g0; cases g0
    · obtain ⟨q', h1, h2, h3⟩ := out q hq
      have := g4 q' h1 d' (by rw [h2]; exact hl)
      rw [h3] at this; exact this
/-- slots forgotten -/
theorem Rel.forget {ε : Ev} {σ : L2.St} {H : Hp} (R : Rel G M ε σ H) (J : List Nat) : Rel G M (wipeE ε J) σ H where
  len := by rw [wipeE_length]; exact R.len
  ml := R.ml
  slot := fun i d e => R.slot i d (wipeE_get.mp e).2
  inj := R.inj
  bor := fun i j a d h1 h2 => R.bor i j a d h1 (wipeE_get.mp h2).2
  balloc := fun i a d h1 h2 => R.balloc i a d h1 (wipeE_get.mp h2).2
  fresh := R.fresh
  alloc := R.alloc
  frame := R.frame
  ios := R.ios
  lp := R.lp
  nob := fun a na j d h1 h2 => R.nob a na j d h1 (wipeE_get.mp h2).2
  pm := R.pm
  nF := R.nF
theorem drop_get {α : Type} {l : List α} {i : Nat} {x : α} (h : l[i]? = some x) : l.drop i = x :: l.drop (i + 1) := by
  obtain ⟨hl, e⟩ := List.getElem?_eq_some_iff.mp h
  rw [List.drop_eq_getElem_cons hl, e]
theorem st_fors (Xo : XOk T Φ Gs k S X) (hK : G.K = X.K) {J : List Nat} {g : Tg} {it : CI} {b : Ss} {tg iter : Expr} {body : List Stmt} {pos : Pos} {M2 : Option (List Md)} {Pn' : List Nat} (hPn : ∀ i, i ∈ lockI it ∨ i ∈ Pn → i ∈ Pn') (hP : Pin Pn G) (hM : ∀ p ∈ G.pin, md M p.1 ≠ .S)
    (hi : PI X tg iter (tI T Φ G M it)) (hn : ns iter = true) (hg : chkTg S (lockM M (lockI it)) g tg = true)
    (hb : ∀ G' : Gh, G'.K = X.K → (Pin Pn' G' ∧ ∀ p ∈ G'.pin, md (lockM M (lockI it)) p.1 ≠ .S) → PSs X body (tSs T Φ G' (lockM M (lockI it)) M2 (some (lockM M (lockI it))) fr b))
    (h2 : ∀ A, M2 = some A → Ge A (lockM M (lockI it))) :
    PS X (.For tg iter body [] pos) (tS T Φ G M (some M) Ml fr (.fors J g it b)) := by
  refine PS.imp (ps_for (by rw [Xo.xe]; exact PySem.PassesOwn.never) Xo.calm hi (PG.ex fun G' hG => tg_ok Xo hG hg) (PSs.ex hb) ?_) fun D σ H ⟨ε, r, R, hd, f⟩ => ?_
  · intro x; cases iter <;> first | rfl | (simp [ns] at hn)
  obtain ⟨⟨ds, ε1⟩, w1, w2⟩ := Option.bind_eq_some_iff.mp (show (denI T Φ it ε).bind (fun (ds, ε1) => forL J (fun d ε2 => (tgD g d ε2).bind fun ε3 => denSs T Φ b ε3) ds ε1) = some r from hd)
  refine ⟨ε, ds, ε1, R, w1, fun _ H1 R1 x1 io => ?_⟩
  have hp1 : Pin Pn' (G.loop M (lockI it) σ H1) := fun p hp => by
    rcases List.mem_append.mp hp with hp | hp
    · exact hPn _ (.inl (mem_lpins.mp hp).1)
    · exact hPn _ (.inr (hP p (List.mem_filter.mp hp).1))
  have hp2 : ∀ p ∈ (G.loop M (lockI it) σ H1).pin, md (lockM M (lockI it)) p.1 ≠ .S := fun p hp => by
    have z := (R1.enter (lockI it)).ios p hp
    rw [z.1]
    rcases (R1.enter (lockI it)).pm p hp with y | y <;> rw [y] <;> decide
  refine ⟨fun i m σ' H' => ∃ ε', m = ds.length - i ∧ i ≤ ds.length ∧ Rel (G.loop M (lockI it) σ H1) (lockM M (lockI it)) ε' σ' H' ∧ forL J (fun d ε2 => (tgD g d ε2).bind fun ε3 => denSs T Φ b ε3) (ds.drop i) ε' = some r, ⟨_, ε1, rfl, Nat.zero_le _, R1.enter _, w2⟩, fun i m σ' H' ⟨ε', hm, hi, R', hf⟩ => ?_⟩
  have kp := R'.keeps R1
  by_cases hlt : i < ds.length
  · refine .inr ⟨io.go i H' kp hlt, fun σ2 H2 => ∃ ε2, Rel (G.loop M (lockI it) σ H1) (lockM M (lockI it)) ε2 σ2 H2 ∧ forL J (fun d ε2 => (tgD g d ε2).bind fun ε3 => denSs T Φ b ε3) (ds.drop (i + 1)) ε2 = some r, fun σ2 H2 ⟨ε2, R2, hf2⟩ => ⟨_, by omega, ε2, rfl, hlt, R2, hf2⟩, fun x H'' hy => ?_⟩
    obtain ⟨d, e1, e2, e3⟩ := io.yld i H' x H'' (Forb (G.loop M (lockI it) σ H1) (lockM M (lockI it)) σ') hlt kp (fun b z n => R'.later R1 z n) R'.taken hy
    rw [drop_get e1] at hf
    simp only [forL] at hf
    have hk : (G.loop M (lockI it) σ H1).K = X.K := hK
    cases q : tgD g d (wipeE ε' J) with
    | none => rw [q] at hf; cases hf
    | some ε3 =>
      rw [q] at hf
      replace hf : (match denSs T Φ b ε3 with
        | some (.nx ε1) => forL J (fun d ε2 => (tgD g d ε2).bind fun ε3 => denSs T Φ b ε3) (ds.drop (i + 1)) ε1
        | some (.ct ε1) => forL J (fun d ε2 => (tgD g d ε2).bind fun ε3 => denSs T Φ b ε3) (ds.drop (i + 1)) ε1
        | some (.bk ε1) => some (VS.R.nx (wipeE ε1 J))
        | some (.rt d ε1) => some (VS.R.rt d ε1)
        | none => none) = some r := hf
      refine ⟨_, hk, wipeE ε' J, d, ε3, (R'.grow e2).forget J, e3, q, fun σ3 R3 _ _ => ⟨_, hk, ⟨hp1, hp2⟩, ε3, ?_⟩⟩
      cases q2 : denSs T Φ b ε3 with
      | none => rw [q2] at hf; cases hf
      | some r2 =>
        rw [q2] at hf
        refine ⟨r2, R3, rfl, ?_⟩
        cases r2 with
        | nx ε4 =>
          intro A hA σ4 H4 R4
          exact ⟨ε4, R4.weak (h2 A hA) hp2, hf⟩
        | ct ε4 =>
          intro A hA σ4 H4 R4
          injection hA with hA
          subst hA
          exact ⟨ε4, R4, hf⟩
        | bk ε4 =>
          intro A hA σ4 H4 R4
          injection hA with hA
          subst hA
          obtain rfl := Option.some.inj hf
          exact f M rfl σ4 H4 ((R1.b.leave R4).forget J)
        | rt d' ε4 =>
          intro v H4 rv
          obtain rfl := Option.some.inj hf
          exact f v H4 (rv.leave R1)
  · refine .inl ⟨io.stop i H' kp (by omega), ?_⟩
    rw [List.drop_eq_nil_of_le (by omega)] at hf
    obtain rfl := Option.some.inj hf
    exact f M rfl σ' H' ((R1.b.leave R').forget J)
theorem st_whil (Xo : XOk T Φ Gs k S X) (hK : G.K = X.K) {J : List Nat} {n : Nat} {t : C} {b : Ss} {x : Expr} {body : List Stmt} {pos : Pos} {M2 : Option (List Md)} (hM : ∀ p ∈ G.pin, md M p.1 ≠ .S)
    (ht : PT X x (tT T Φ G M t)) (hb : PSs X body (tSs T Φ G M M2 (some M) fr b)) (h2 : ∀ A, M2 = some A → Ge A M) :
    PS X (.While x body [] pos) (tS T Φ G M (some M) Ml fr (.whil J n t b)) := by
  refine PS.imp (ps_while (by rw [Xo.xe]; exact PySem.PassesOwn.never) ht hb) fun D σ H ⟨ε, r, R, hd, f⟩ => ?_
  replace hd : whileL J (denT T Φ t) (denSs T Φ b) n ε = some r := hd
  refine ⟨fun m σ' H' => ∃ ε', Rel G M ε' σ' H' ∧ whileL J (denT T Φ t) (denSs T Φ b) m ε' = some r, ⟨n, ε, R, hd⟩, fun m σ' H' ⟨ε', R', hf⟩ => ?_⟩
  cases m with
  | zero => cases hf
  | succ m =>
    simp only [whileL] at hf
    cases q : denT T Φ t (wipeE ε' J) with
    | none => rw [q] at hf; cases hf
    | some z =>
      obtain ⟨c, ε1⟩ := z
      rw [q] at hf
      refine ⟨wipeE ε' J, c, ε1, R'.forget J, q, fun H1 R1 x1 => ?_⟩
      cases c with
      | false =>
        obtain rfl := Option.some.inj hf
        exact f M rfl σ' H1 (R1.forget J)
      | true =>
        refine ⟨fun σ2 H2 => ∃ ε2, Rel G M ε2 σ2 H2 ∧ whileL J (denT T Φ t) (denSs T Φ b) m ε2 = some r, fun σ2 H2 ⟨ε2, R2, hf2⟩ => ⟨m, by omega, ε2, R2, hf2⟩, ε1, ?_⟩
        replace hf : (match denSs T Φ b ε1 with
          | some (.nx ε2) => whileL J (denT T Φ t) (denSs T Φ b) m ε2
          | some (.ct ε2) => whileL J (denT T Φ t) (denSs T Φ b) m ε2
          | some (.bk ε2) => some (VS.R.nx (wipeE ε2 J))
          | some (.rt d ε2) => some (VS.R.rt d ε2)
          | none => none) = some r := hf
        cases q2 : denSs T Φ b ε1 with
        | none => rw [q2] at hf; cases hf
        | some r2 =>
          rw [q2] at hf
          refine ⟨r2, R1, rfl, ?_⟩
          cases r2 with
          | nx ε4 =>
            intro A hA σ4 H4 R4
            exact ⟨ε4, R4.weak (h2 A hA) hM, hf⟩
          | ct ε4 =>
            intro A hA σ4 H4 R4
            injection hA with hA
            subst hA
            exact ⟨ε4, R4, hf⟩
          | bk ε4 =>
            intro A hA σ4 H4 R4
            injection hA with hA
            subst hA
            obtain rfl := Option.some.inj hf
            exact f M rfl σ4 H4 (R4.forget J)
          | rt d' ε4 =>
            intro v H4 rv
            obtain rfl := Option.some.inj hf
            exact f v H4 rv
/-! ### blocks -/
theorem ss_nil : PSs X [] (tSs T Φ G M (some M) Ml fr .nil) := PSs.imp pss_nil fun D σ H ⟨ε, r, R, hd, f⟩ => by
  obtain rfl := Option.some.inj hd
  exact f M rfl σ H R
theorem ss_one {s : VS.S} {st : Stmt} (h : PS X st (tS T Φ G M Mo Ml fr s)) : PSs X [st] (tSs T Φ G M Mo Ml fr (.cons s .nil)) := PSs.imp (pss_one h) fun D σ H ⟨ε, r, R, hd, f⟩ => by
  refine ⟨ε, r, R, ?_, f⟩
  replace hd : (match denS T Φ s ε with
    | some (.nx ε1) => denSs T Φ .nil ε1
    | x => x) = some r := hd
  split at hd
  · rename_i ε1 q
    rw [q]; exact hd
  · exact hd
theorem ss_cons {s : VS.S} {rr : Ss} {st : Stmt} {rest : List Stmt} {M2 : List Md} (h : PS X st (tS T Φ G M (some M2) Ml fr s)) (h2 : PSs X rest (tSs T Φ G M2 Mo Ml fr rr)) : PSs X (st :: rest) (tSs T Φ G M Mo Ml fr (.cons s rr)) := PSs.imp (pss_cons h h2) fun D σ H ⟨ε, r, R, hd, f⟩ => by
  replace hd : (match denS T Φ s ε with
    | some (.nx ε1) => denSs T Φ rr ε1
    | x => x) = some r := hd
  cases q : denS T Φ s ε with
  | none => rw [q] at hd; cases hd
  | some r1 =>
    rw [q] at hd
    refine ⟨ε, r1, R, q, ?_⟩
    cases r1 with
    | nx ε1 =>
      intro M' hM σ' H' R'
      injection hM with hM
      subst hM
      exact ⟨ε1, r, R', hd, f⟩
    | rt d ε1 => obtain rfl := Option.some.inj hd; exact f
    | bk ε1 => obtain rfl := Option.some.inj hd; exact f
    | ct ε1 => obtain rfl := Option.some.inj hd; exact f
theorem ss_end {s : VS.S} {rr : Ss} {st : Stmt} {rest : List Stmt} (h : PS X st (tS T Φ G M none Ml fr s)) : PSs X (st :: rest) (tSs T Φ G M none Ml fr (.cons s rr)) := PSs.imp (pss_cons h pss_never) fun D σ H ⟨ε, r, R, hd, f⟩ => by
  replace hd : (match denS T Φ s ε with
    | some (.nx ε1) => denSs T Φ rr ε1
    | x => x) = some r := hd
  cases q : denS T Φ s ε with
  | none => rw [q] at hd; cases hd
  | some r1 =>
    rw [q] at hd
    refine ⟨ε, r1, R, q, ?_⟩
    cases r1 with
    | nx ε1 =>
      intro M' hM
      cases hM
    | rt d ε1 => obtain rfl := Option.some.inj hd; exact f
    | bk ε1 => obtain rfl := Option.some.inj hd; exact f
    | ct ε1 => obtain rfl := Option.some.inj hd; exact f
end
end VS

set_option maxHeartbeats 1000000
/-! V18: every statement that is a code. -/
namespace VS
open PySem PySem.Spec PyProof.Rows L2

section
variable {T : Tb} {Φ : Ph} {Gs : Gc} {k : Nat}
theorem o_lt {M : List Md} {i : Nat} (h : md M i = .O) : i < M.length := md_lt (by rw [h]; decide)
theorem pn_ne {Pn : List Nat} {G : Gh} (hP : Pin Pn G) {i : Nat} (h : Pn.contains i = false) : ∀ p ∈ G.pin, p.1 ≠ i := pins_ne hP h
theorem if_some {b : Bool} {M : List Md} {Mo : Option (List Md)} (h : (if b = true then some (some M) else none) = some Mo) : b = true ∧ Mo = some M := by
  cases b
  · cases h
  · injection h with h; exact ⟨rfl, h.symm⟩
mutual
theorem sS : ∀ (s : VS.S) {S : Sc} {Pn : List Nat} {Ml : Option (List Md)} {M : List Md} {Mo : Option (List Md)} {st : Stmt} {X : Cx} {G : Gh} {fr : Bool}, XOk T Φ Gs k S X → G.K = X.K → Pin Pn G → (∀ p ∈ G.pin, md M p.1 ≠ .S) → (∀ M2, Ml = some M2 → ∀ p ∈ G.pin, md M2 p.1 ≠ .S) →
    chkS T Gs S fr Pn Ml s M st = some Mo → PS X st (tS T Φ G M Mo Ml fr s)
  | .set o i e, S, Pn, Ml, M, Mo, st, X, G, fr, Xo, hK, hP, hM, hL, h => by
    unfold chkS at h
    split at h <;> first | contradiction | skip
    rename_i q1
    cases q1
    split at h
    · rename_i g
      simp only [Bool.and_eq_true, Bool.not_eq_true', Bool.or_eq_true, decide_eq_true_eq] at g
      obtain ⟨⟨⟨⟨⟨⟨g1, g2⟩, g3⟩, g4⟩, g5⟩, g6⟩, g7⟩ := g
      injection h with h; subst h
      exact st_set Xo hK hP g1 g2 g3 g4 g5 fun z => by
        rcases g7 with g7 | g7
        · rw [z] at g7; cases g7
        · exact g7
    · cases h
  | .tgt g e, S, Pn, Ml, M, Mo, st, X, G, fr, Xo, hK, hP, hM, hL, h => by
    unfold chkS at h
    split at h <;> first | contradiction | skip
    rename_i q1
    cases q1
    split at h
    · rename_i g
      simp only [Bool.and_eq_true, Bool.not_eq_true', Bool.or_eq_true, decide_eq_true_eq] at g
      obtain ⟨⟨⟨⟨⟨g1, g2⟩, g3⟩, g4⟩, g5⟩, g6⟩ := g
      injection h with h; subst h
      rcases g2 with g2 | g2
      · exact st_tgt Xo hK g1 g2 g3 g4 (sE e Xo hK g5)
      · exact st_par Xo hK g2 g4 g5
    · cases h
  | .par _ _ _ _, S, Pn, Ml, M, Mo, st, X, G, fr, Xo, hK, hP, hM, hL, h => by
    unfold chkS at h
    cases h
  | .sub i ix e, S, Pn, Ml, M, Mo, st, X, G, fr, Xo, hK, hP, hM, hL, h => by
    unfold chkS at h
    split at h <;> first | contradiction | skip
    rename_i q1
    cases q1
    split at h
    · rename_i g
      simp only [Bool.and_eq_true, Bool.not_eq_true', Bool.or_eq_true, decide_eq_true_eq] at g
      obtain ⟨⟨⟨⟨⟨⟨g1, g2⟩, g3⟩, g4⟩, g5⟩, g6⟩, g7⟩ := g
      injection h with h; subst h
      exact st_sub Xo g1 g2 (sE ix Xo hK g3) g4 (sE e Xo hK g5) g6
    · cases h
  | .dput i ix e, S, Pn, Ml, M, Mo, st, X, G, fr, Xo, hK, hP, hM, hL, h => by
    unfold chkS at h
    split at h <;> first | contradiction | skip
    rename_i q1
    cases q1
    split at h
    · rename_i g
      simp only [Bool.and_eq_true, Bool.not_eq_true', Bool.or_eq_true, decide_eq_true_eq] at g
      obtain ⟨⟨⟨⟨⟨⟨g1, g2⟩, g3⟩, g4⟩, g5⟩, g6⟩, g7⟩ := g
      injection h with h; subst h
      exact st_dput Xo g1 g2 (sE ix Xo hK g3) g4 (sE e Xo hK g5) g6
    · cases h
  | .app i e, S, Pn, Ml, M, Mo, st, X, G, fr, Xo, hK, hP, hM, hL, h => by
    unfold chkS at h
    split at h <;> first | contradiction | skip
    rename_i q1
    cases q1
    split at h
    · rename_i g
      simp only [Bool.and_eq_true, Bool.not_eq_true', Bool.or_eq_true, decide_eq_true_eq] at g
      obtain ⟨⟨⟨⟨⟨g1, g2⟩, g3⟩, g4⟩, g5⟩, g6⟩ := g
      injection h with h; subst h
      exact st_app Xo g1 g2 g3 g4 g6 (sE e Xo hK g5)
    · cases h
  | .ext i e, S, Pn, Ml, M, Mo, st, X, G, fr, Xo, hK, hP, hM, hL, h => by
    unfold chkS at h
    split at h <;> first | contradiction | skip
    rename_i q1
    cases q1
    split at h
    · rename_i g
      simp only [Bool.and_eq_true, Bool.not_eq_true', Bool.or_eq_true, decide_eq_true_eq] at g
      obtain ⟨⟨⟨⟨⟨g1, g2⟩, g3⟩, g4⟩, g5⟩, g6⟩ := g
      injection h with h; subst h
      exact st_ext Xo g1 g2 g3 g4 g6 (sb_ok Xo g5 fun z => sE e Xo hK z)
    · cases h
  | .clr i, S, Pn, Ml, M, Mo, st, X, G, fr, Xo, hK, hP, hM, hL, h => by
    unfold chkS at h
    split at h <;> first | contradiction | skip
    rename_i q1
    cases q1
    split at h
    · rename_i g
      simp only [Bool.and_eq_true, Bool.not_eq_true', Bool.or_eq_true, decide_eq_true_eq] at g
      obtain ⟨⟨⟨g1, g2⟩, g3⟩, g4⟩ := g
      injection h with h; subst h
      exact st_clr Xo g1 g2 g3 g4
    · cases h
  | .appT a e, S, Pn, Ml, M, Mo, st, X, G, fr, Xo, hK, hP, hM, hL, h => by
    obtain ⟨M', hMM⟩ : ∃ M', M' = M := ⟨M, rfl⟩
    unfold chkS at h
    split at h <;> first | contradiction | skip
    rename_i o m ap v cp pos q1
    cases q1
    subst hMM
    obtain ⟨g, rfl⟩ := if_some h
    simp only [Bool.and_eq_true, decide_eq_true_eq] at g
    obtain ⟨⟨⟨⟨⟨⟨g1, g2⟩, g3⟩, g4⟩, g5⟩, g6⟩, g7⟩ := g
    exact st_appT hK g1 g2 g3 g4 (sE a Xo hK g5) g7 fun G' hG => sE e Xo hG g6
  | .aug p i e, S, Pn, Ml, M, Mo, st, X, G, fr, Xo, hK, hP, hM, hL, h => by
    unfold chkS at h
    split at h <;> first | contradiction | skip
    rename_i q1
    cases q1
    split at h
    · rename_i g
      simp only [Bool.and_eq_true, Bool.not_eq_true', Bool.or_eq_true, decide_eq_true_eq] at g
      obtain ⟨⟨⟨⟨g1, g2⟩, g3⟩, g4⟩, g5⟩ := g
      injection h with h; subst h
      exact st_aug Xo g1 g2 g3 (sE e Xo hK g4)
    · cases h
  | .ex e, S, Pn, Ml, M, Mo, st, X, G, fr, Xo, hK, hP, hM, hL, h => by
    unfold chkS at h
    split at h <;> first | contradiction | skip
    rename_i q1
    cases q1
    split at h
    · rename_i g
      simp only [Bool.and_eq_true, Bool.not_eq_true', Bool.or_eq_true, decide_eq_true_eq] at g
      obtain ⟨⟨g1, g2⟩, g3⟩ := g
      injection h with h; subst h
      exact st_ex (sE e Xo hK g1) g2
    · cases h
  | .ret e, S, Pn, Ml, M, Mo, st, X, G, fr, Xo, hK, hP, hM, hL, h => by
    unfold chkS at h
    split at h <;> first | contradiction | skip
    rename_i q1
    cases q1
    split at h
    · rename_i g
      simp only [Bool.and_eq_true, Bool.not_eq_true', Bool.or_eq_true, decide_eq_true_eq] at g
      obtain ⟨g1, g2⟩ := g
      injection h with h; subst h
      exact st_ret (sE e Xo hK g1) fun z => by
        rcases g2 with g2 | g2
        · rw [z] at g2; cases g2
        · exact g2
    · cases h
  | .retO i, S, Pn, Ml, M, Mo, st, X, G, fr, Xo, hK, hP, hM, hL, h => by
    unfold chkS at h
    split at h <;> first | contradiction | skip
    rename_i q1
    cases q1
    split at h
    · rename_i g
      simp only [Bool.and_eq_true, Bool.not_eq_true', Bool.or_eq_true, decide_eq_true_eq] at g
      obtain ⟨⟨g1, g2⟩, g3⟩ := g
      injection h with h; subst h
      exact st_retO Xo g1 g2 (o_lt g2) (pn_ne hP g3)
    · cases h
  | .retN, S, Pn, Ml, M, Mo, st, X, G, fr, Xo, hK, hP, hM, hL, h => by
    unfold chkS at h
    split at h <;> first | contradiction | skip
    injection h with h; subst h
    exact st_retN
  | .kil J s, S, Pn, Ml, M, Mo, st, X, G, fr, Xo, hK, hP, hM, hL, h => by
    unfold chkS at h
    exact PS.imp (sS s Xo hK hP hM hL h) fun D σ H ⟨ε, r, R, hd, f⟩ => ⟨wipeE ε J, r, R.forget J, hd, f⟩
  | .ifs t a b, S, Pn, Ml, M, Mo, st, X, G, fr, Xo, hK, hP, hM, hL, h => by
    obtain ⟨M', hMM⟩ : ∃ M', M' = M := ⟨M, rfl⟩
    unfold chkS at h
    split at h <;> first | contradiction | skip
    rename_i q1
    cases q1
    subst hMM
    split at h
    · rename_i g
      split at h
      · rename_i r q hr hq
        have hA : ∀ A', r = some A' → ∀ p ∈ G.pin, md A' p.1 = md M' p.1 := fun A' z p hp => pinSs a (by rw [hr, z]) p.1 (hP p hp)
        have hB : ∀ A', q = some A' → ∀ p ∈ G.pin, md A' p.1 = md M' p.1 := fun A' z p hp => pinSs b (by rw [hq, z]) p.1 (hP p hp)
        exact st_ifs (sT t Xo hK g) (sSs a Xo hK hP hM hL hr) (sSs b Xo hK hP hM hL hq) (join_weak h hA hB hM)
      · cases h
    · cases h
  | .fors J g it b, S, Pn, Ml, M, Mo, st, X, G, fr, Xo, hK, hP, hM, hL, h => by
    obtain ⟨M', hMM⟩ : ∃ M', M' = M := ⟨M, rfl⟩
    unfold chkS at h
    split at h <;> first | contradiction | skip
    rename_i q1
    cases q1
    subst hMM
    rename_i tg iter body pos
    split at h
    · rename_i g1
      simp only [Bool.and_eq_true] at g1
      obtain ⟨⟨g1, g2⟩, g3⟩ := g1
      have main : ∀ M2, chkSs T Gs S fr (lockI it ++ Pn) (some (lockM M' (lockI it))) b (lockM M' (lockI it)) body = some M2 → (∀ A, M2 = some A → Ge A (lockM M' (lockI it))) → PS X (.For tg iter body [] pos) (tS T Φ G M' (some M') Ml fr (.fors J g it b)) := fun M2 hc h2 =>
        st_fors (Ml := Ml) Xo hK (Pn' := lockI it ++ Pn) (fun i hi => List.mem_append.mpr hi) hP hM (sI it Xo hK g1) g2 g3 (fun G' hG hp => sSs b Xo hG hp.1 hp.2 (fun M3 e p hp' => by
          injection e with e
          subst e
          exact hp.2 p hp') hc) h2
      split at h
      · rename_i hc
        injection h with h; subst h
        exact main _ hc fun A z => by cases z
      · rename_i M2 hc
        split at h
        · rename_i hg
          injection h with h; subst h
          exact main _ hc fun A z => by
            injection z with z
            subst z
            exact ge_of hg
        · cases h
      · cases h
    · cases h
  | .whil J n t b, S, Pn, Ml, M, Mo, st, X, G, fr, Xo, hK, hP, hM, hL, h => by
    obtain ⟨M', hMM⟩ : ∃ M', M' = M := ⟨M, rfl⟩
    unfold chkS at h
    split at h <;> first | contradiction | skip
    rename_i q1
    cases q1
    subst hMM
    rename_i x body pos
    split at h
    · rename_i g1
      have main : ∀ M2, chkSs T Gs S fr Pn (some M') b M' body = some M2 → (∀ A, M2 = some A → Ge A M') → PS X (.While x body [] pos) (tS T Φ G M' (some M') Ml fr (.whil J n t b)) := fun M2 hc h2 =>
        st_whil (Ml := Ml) (n := n) Xo hK hM (sT t Xo hK g1) (sSs b Xo hK hP hM (fun M3 e p hp' => by
          injection e with e
          subst e
          exact hM p hp') hc) h2
      split at h
      · rename_i hc
        injection h with h; subst h
        exact main _ hc fun A z => by cases z
      · rename_i M2 hc
        split at h
        · rename_i hg
          injection h with h; subst h
          exact main _ hc fun A z => by
            injection z with z
            subst z
            exact ge_of hg
        · cases h
      · cases h
    · cases h
  | .brk, S, Pn, Ml, M, Mo, st, X, G, fr, Xo, hK, hP, hM, hL, h => by
    unfold chkS at h
    split at h <;> first | contradiction | skip
    split at h
    · rename_i M2
      split at h
      · rename_i g
        injection h with h; subst h
        exact st_brk g (hL M2 rfl)
      · cases h
    · cases h
  | .cnt, S, Pn, Ml, M, Mo, st, X, G, fr, Xo, hK, hP, hM, hL, h => by
    unfold chkS at h
    split at h <;> first | contradiction | skip
    split at h
    · rename_i M2
      split at h
      · rename_i g
        injection h with h; subst h
        exact st_cnt g (hL M2 rfl)
      · cases h
    · cases h
  | .pas, S, Pn, Ml, M, Mo, st, X, G, fr, Xo, hK, hP, hM, hL, h => by
    unfold chkS at h
    split at h <;> first | contradiction | skip
    injection h with h; subst h
    exact st_pas
  | .dead, S, Pn, Ml, M, Mo, st, X, G, fr, Xo, hK, hP, hM, hL, h => by
    unfold chkS at h
    injection h with h; subst h
    exact st_dead
  | .dem i s, S, Pn, Ml, M, Mo, st, X, G, fr, Xo, hK, hP, hM, hL, h => by
    unfold chkS at h
    split at h
    · rename_i g
      simp only [Bool.and_eq_true, Bool.not_eq_true', decide_eq_true_eq] at g
      obtain ⟨⟨g1, g2⟩, g3⟩ := g
      have ne := pn_ne hP g2
      have := sS s Xo hK hP (fun p hp => by rw [md_set' (fun z => ne p hp z.symm)]; exact hM p hp) hL h
      exact PS.imp this fun D σ H ⟨ε, r, R, hd, f⟩ => ⟨ε, r, R.demote ne (.inl g1) g3, hd, f⟩
    · cases h
theorem sSs : ∀ (s : Ss) {S : Sc} {Pn : List Nat} {Ml : Option (List Md)} {M : List Md} {Mo : Option (List Md)} {st : List Stmt} {X : Cx} {G : Gh} {fr : Bool}, XOk T Φ Gs k S X → G.K = X.K → Pin Pn G → (∀ p ∈ G.pin, md M p.1 ≠ .S) → (∀ M2, Ml = some M2 → ∀ p ∈ G.pin, md M2 p.1 ≠ .S) →
    chkSs T Gs S fr Pn Ml s M st = some Mo → PSs X st (tSs T Φ G M Mo Ml fr s)
  | .nil, S, Pn, Ml, M, Mo, st, X, G, fr, Xo, hK, hP, hM, hL, h => by
    unfold chkSs at h
    split at h <;> first | contradiction | skip
    injection h with h; subst h
    exact ss_nil
  | .cons s r, S, Pn, Ml, M, Mo, st, X, G, fr, Xo, hK, hP, hM, hL, h => by
    unfold chkSs at h
    split at h <;> first | contradiction | skip
    · rename_i q1
      cases q1
      exact ss_one (sS s Xo hK hP hM hL h)
    · rename_i q1
      cases q1
      split at h
      · rename_i M2 hs
        exact ss_cons (sS s Xo hK hP hM hL hs) (sSs r Xo hK hP (fun p hp => by rw [pinS s hs p.1 (hP p hp)]; exact hM p hp) hL h)
      · rename_i hs
        injection h with h; subst h
        exact ss_end (sS s Xo hK hP hM hL hs)
      · cases h
end
end
end VS

set_option maxHeartbeats 1000000
/-! V19: a def that is a code keeps its promise. -/
namespace VS
open PySem PySem.Spec PyProof.Rows L2

def modesOf (df : Df) : List Md := df.ms ++ List.replicate (df.N.length - df.ms.length) .S
def oIdx : List Md → Nat → List Nat
  | [], _ => []
  | .O :: ms, i => i :: oIdx ms (i + 1)
  | _ :: ms, i => oIdx ms (i + 1)
def oPins : List Md → List V → Nat → List (Nat × Addr × Md)
  | .O :: ms, .ref a :: vs, i => (i, a, .O) :: oPins ms vs (i + 1)
  | _ :: ms, _ :: vs, i => oPins ms vs (i + 1)
  | _, _, _ => []
theorem mem_oIdx : ∀ {ms : List Md} {i j : Nat}, ms[j]? = some .O → i + j ∈ oIdx ms i
  | [], i, j, h => by simp at h
  | m :: ms, i, 0, h => by
    obtain rfl : m = .O := by simpa using h
    simp [oIdx]
  | m :: ms, i, j + 1, h => by
    have := mem_oIdx (ms := ms) (i := i + 1) (j := j) (by simpa using h)
    rw [show i + (j + 1) = i + 1 + j by omega]
    cases m <;> simp [oIdx, this]
theorem mem_oPins : ∀ {ms : List Md} {vs : List V} {i : Nat} {p : Nat × Addr × Md}, p ∈ oPins ms vs i ↔ ∃ j, p.1 = i + j ∧ ms[j]? = some .O ∧ vs[j]? = some (.ref p.2.1) ∧ p.2.2 = .O
  | [], vs, i, p => by simp [oPins]
  | m :: ms, [], i, p => by cases m <;> simp [oPins]
  | m :: ms, v :: vs, i, p => by
    have ih := mem_oPins (ms := ms) (vs := vs) (i := i + 1) (p := p)
    have step : (∃ j, p.1 = i + 1 + j ∧ ms[j]? = some Md.O ∧ vs[j]? = some (V.ref p.2.1) ∧ p.2.2 = .O) ↔ ∃ j, p.1 = i + (j + 1) ∧ (m :: ms)[j + 1]? = some Md.O ∧ (v :: vs)[j + 1]? = some (V.ref p.2.1) ∧ p.2.2 = .O := by
      constructor
      · rintro ⟨j, h1, h2, h3, h4⟩; exact ⟨j, by omega, by simpa using h2, by simpa using h3, h4⟩
      · rintro ⟨j, h1, h2, h3, h4⟩; exact ⟨j, by omega, by simpa using h2, by simpa using h3, h4⟩
    have split : (∃ j, p.1 = i + j ∧ (m :: ms)[j]? = some Md.O ∧ (v :: vs)[j]? = some (V.ref p.2.1) ∧ p.2.2 = .O) ↔ (p.1 = i ∧ m = .O ∧ v = .ref p.2.1 ∧ p.2.2 = .O) ∨ ∃ j, p.1 = i + (j + 1) ∧ (m :: ms)[j + 1]? = some Md.O ∧ (v :: vs)[j + 1]? = some (V.ref p.2.1) ∧ p.2.2 = .O := by
      constructor
      · rintro ⟨j, h1, h2, h3, h4⟩
        cases j with
        | zero => exact .inl ⟨by omega, by simpa using h2, by simpa using h3, h4⟩
        | succ j => exact .inr ⟨j, h1, h2, h3, h4⟩
      · rintro (⟨h1, h2, h3, h4⟩ | ⟨j, h1, h2, h3, h4⟩)
        · exact ⟨0, by omega, by simp [h2], by simp [h3], h4⟩
        · exact ⟨j + 1, h1, h2, h3, h4⟩
    rw [split, ← step, ← ih]
    by_cases hm : m = .O
    · subst hm
      cases v with
      | ref a =>
        simp only [oPins, List.mem_cons]
        refine or_congr ⟨fun e => ?_, fun ⟨h1, _, h3, h4⟩ => ?_⟩ Iff.rfl
        · subst e; simp
        · obtain ⟨x, y, z⟩ := p
          simp at h1 h3 h4
          subst h1 h3 h4; rfl
      | _ =>
        simp only [oPins]
        refine ⟨.inr, fun h => h.elim (fun ⟨_, _, h3, _⟩ => by cases h3) id⟩
    · have : oPins (m :: ms) (v :: vs) i = oPins ms vs (i + 1) := by
        cases m <;> first | exact absurd rfl hm | rfl
      rw [this]
      exact ⟨.inr, fun h => h.elim (fun ⟨_, h2, _⟩ => absurd h2 hm) id⟩
section
variable {K : PySem.W.Frag} {H : Hp} {F : VS.AP}
theorem ArgsOk.len : ∀ {ms : List Md} {vs : List V} {ds : List VS.D}, ArgsOk K H F ms vs ds → vs.length = ms.length ∧ ds.length = ms.length
  | [], [], [], _ => ⟨rfl, rfl⟩
  | _ :: _, _ :: _, _ :: _, h => by obtain ⟨a, b⟩ := ArgsOk.len h.2; simp [a, b]
  | [], _ :: _, _, h => by simp [ArgsOk] at h
  | [], [], _ :: _, h => by simp [ArgsOk] at h
  | _ :: _, [], _, h => by simp [ArgsOk] at h
  | _ :: _, _ :: _, [], h => by simp [ArgsOk] at h
theorem ArgsOk.get : ∀ {ms : List Md} {vs : List V} {ds : List VS.D} {j : Nat} {m : Md} {v : V} {d : VS.D}, ArgsOk K H F ms vs ds → ms[j]? = some m → vs[j]? = some v → ds[j]? = some d → ArgOk K H F m v d
  | m' :: _, v' :: _, d' :: _, 0, m, v, d, h, h1, h2, h3 => by
    have e1 : m' = m := by simpa using h1
    have e2 : v' = v := by simpa using h2
    have e3 : d' = d := by simpa using h3
    subst e1 e2 e3; exact h.1
  | _ :: _, _ :: _, _ :: _, j + 1, m, v, d, h, h1, h2, h3 => ArgsOk.get h.2 (by simpa using h1) (by simpa using h2) (by simpa using h3)
  | [], _, _, j, m, v, d, h, h1, h2, h3 => by simp at h1
  | _ :: _, [], _, j, m, v, d, h, h1, h2, h3 => by simp at h2
  | _ :: _, _ :: _, [], j, m, v, d, h, h1, h2, h3 => by simp at h3
end
theorem md_modes {df : Df} {i : Nat} : md (modesOf df) i = match df.ms[i]? with | some m => m | none => .S := by
  unfold md modesOf
  by_cases h : i < df.ms.length
  · rw [List.getElem?_append_left h]
    all_goals (cases df.ms[i]? <;> rfl)
  · rw [List.getElem?_append_right (by omega), List.getElem?_eq_none (l := df.ms) (by omega), List.getElem?_replicate]
    split <;> simp_all
theorem at_start {N : List Str} {vs : List V} {i : Nat} {a : Addr} : At (L2.start N vs) i a ↔ vs[i]? = some (.ref a) := by
  unfold At L2.start
  by_cases h : i < vs.length
  · rw [List.getElem?_append_left (by simpa using h), List.getElem?_map, List.getElem?_eq_getElem h]
    simp
  · rw [List.getElem?_append_right (by simp; omega), List.getElem?_eq_none (l := vs) (by omega), List.getElem?_replicate]
    split <;> simp
theorem look_start {ds : List VS.D} {n i : Nat} : look (ds.map some ++ List.replicate n none) i = ds[i]? := by
  unfold look
  by_cases h : i < ds.length
  · rw [List.getElem?_append_left (by simpa using h), List.getElem?_map, List.getElem?_eq_getElem h]
    simp
  · rw [List.getElem?_append_right (by simp; omega), List.getElem?_eq_none (l := ds) (by omega), List.getElem?_replicate]
    split <;> simp_all
def ghOf (K : PySem.W.Frag) (F : VS.AP) (H : Hp) (ms : List Md) (vs : List V) : Gh := { K := K, F := F, H0 := H, pin := oPins ms vs 0, nb := fun _ => False }
theorem io_gh {K : PySem.W.Frag} {F : VS.AP} {H : Hp} {ms : List Md} {vs : List V} {a : Addr} : (ghOf K F H ms vs).ioA a ↔ OArg ms vs a := by
  constructor
  · rintro ⟨p, hp, h1, h2⟩
    obtain ⟨j, e1, e2, e3, e4⟩ := mem_oPins.mp hp
    exact ⟨j, e2, by rw [e3, h2]⟩
  · rintro ⟨j, h1, h2⟩
    exact ⟨(j, a, .O), mem_oPins.mpr ⟨j, by simp, h1, h2, rfl⟩, rfl, rfl⟩
/-- at the entry -/
theorem rel_start {K : PySem.W.Frag} {F : VS.AP} {H : Hp} {df : Df} {vs : List V} {ds : List VS.D} (hT : Taken H F) (hA : ArgsOk K H F df.ms vs ds) (hD : Dist df.ms vs ds) (hl : df.ms.length ≤ df.N.length) :
    Rel (ghOf K F H df.ms vs) (modesOf df) (ds.map some ++ List.replicate (df.N.length - ds.length) none) (L2.start df.N vs) H := by
  obtain ⟨l1, l2⟩ := hA.len
  have own : ∀ {i : Nat} {a : Addr}, OwnAt (modesOf df) (L2.start df.N vs) i a → df.ms[i]? = some Md.O ∧ vs[i]? = some (V.ref a) := fun {i a} ⟨h1, h2⟩ => by
    rw [at_start] at h2
    have hi : i < df.ms.length := by rw [← l1]; exact (List.getElem?_eq_some_iff.mp h2).1
    obtain ⟨d, hd⟩ := get_of_lt (l := ds) (i := i) (by omega)
    rw [md_modes, List.getElem?_eq_getElem hi] at h1
    rw [List.getElem?_eq_getElem hi]
    rcases h1 with h1 | h1
    · exact ⟨by simpa using h1, h2⟩
    · have := hA.get (List.getElem?_eq_getElem hi) h2 hd
      simp at h1
      rw [h1] at this
      exact this.elim
  have inF : ∀ {i : Nat} {a : Addr}, df.ms[i]? = some Md.O → vs[i]? = some (V.ref a) → F a := fun {i a} h1 h2 => by
    obtain ⟨d, hd⟩ := get_of_lt (l := ds) (i := i) (by rw [l2]; exact (List.getElem?_eq_some_iff.mp h1).1)
    obtain ⟨_, b, e, f⟩ := hA.get h1 h2 hd
    injection e with e
    rw [e]; exact f
  have fb : ∀ a, Forb (ghOf K F H df.ms vs) (modesOf df) (L2.start df.N vs) a → F a := fun a f => by
    rcases f with f | ⟨i, o⟩
    · exact f
    · obtain ⟨h1, h2⟩ := own o
      exact inF h1 h2
  have isB : ∀ {i : Nat}, md (modesOf df) i = .B → df.ms[i]? = some .B := fun {i} h => by
    rw [md_modes] at h
    split at h
    · rename_i m q; rw [q, h]
    · cases h
  have isO : ∀ {i : Nat}, md (modesOf df) i = .O → df.ms[i]? = some .O := fun {i} h => by
    rw [md_modes] at h
    split at h
    · rename_i m q; rw [q, h]
    · cases h
  refine ⟨by simp [L2.start, l1, l2], by simp [L2.start, modesOf, l1], fun i d hd => ?_, fun i j a h1 h2 => ?_, fun i j a d h1 h2 h3 h4 h5 => ?_, fun i a d h1 h2 h3 h4 => ?_, fun i a h1 h2 => ?_, fun a f => hT a (fb a f), fun b o _ e => e, fun p hp => ?_, fun i a h1 h2 => ?_, fun a z => z.elim, fun p hp => ?_, fun i a h1 h2 => ?_⟩
  · rw [look_start] at hd
    have hi := (List.getElem?_eq_some_iff.mp hd).1
    obtain ⟨v, hv⟩ := get_of_lt (l := vs) (i := i) (by omega)
    obtain ⟨m, hm⟩ := get_of_lt (l := df.ms) (i := i) (by omega)
    have ha := hA.get hm hv hd
    refine ⟨v, ?_, ?_⟩
    · unfold L2.start
      rw [List.getElem?_append_left (by simp; omega), List.getElem?_map, hv]; rfl
    · have em : md (modesOf df) i = m := by rw [md_modes, hm]
      rw [em]
      cases m with
      | S => exact ⟨fun _ => ha.less fb, .of (ha.less fb)⟩
      | B => exact ⟨fun z => (by cases z), ha.less fb⟩
      | O => exact ⟨fun z => (by cases z), ha.1.less fb⟩
      | L => exact ha.elim
  · obtain ⟨a1, a2⟩ := own h1
    obtain ⟨b1, b2⟩ := own h2
    exact hD.oo i j a a1 b1 a2 b2
  · obtain ⟨b1, b2⟩ := own h5
    rw [look_start] at h2
    exact hD.bo i j a d (isB h1) h2 h3 b1 (at_start.mp h4) b2
  · rw [look_start] at h2
    have ha : RDT K H F (.ref a) d := hA.get (isB h1) (at_start.mp h4) h2
    cases ha with
    | of h => cases h <;> first | (intro z; simp_all; done) | cases h3
    | lst e r => rw [e]; simp
    | dct e r => rw [e]; simp
    | set e r n => rw [e]; simp
  · exact .inr (io_gh.mpr ⟨i, isO h1, at_start.mp h2⟩)
  · obtain ⟨j, e1, e2, e3, e4⟩ := mem_oPins.mp hp
    have e1' : p.1 = j := by omega
    refine ⟨by rw [md_modes, e1', e2, e4], ?_⟩
    rw [at_start, e1']; exact e3
  · have := own ⟨.inr h1, h2⟩
    rw [md_modes, this.1] at h1
    cases h1
  · obtain ⟨j, e1, e2, e3, e4⟩ := mem_oPins.mp hp
    exact .inl e4
  · exact .inr (io_gh.mpr ⟨i, isO h1, at_start.mp h2⟩)
theorem outs_ok {K : PySem.W.Frag} {H : Hp} {F : VS.AP} {ε : Ev} : ∀ {ms : List Md} {vs : List V} {i : Nat} {os : List VS.D}, vs.length = ms.length → (∀ j : Nat, ms[j]? = some Md.O → ∃ a, vs[j]? = some (V.ref a)) → outsOf ε ms i = some os → (∀ q ∈ oPins ms vs i, ∀ d', look ε q.1 = some d' → RDT K H F (.ref q.2.1) d') → OutsOk K H F ms vs os
  | [], [], i, os, _, _, h, _ => by injection h with e; subst e; rfl
  | [], _ :: _, i, os, hl, _, h, _ => by simp at hl
  | _ :: _, [], i, os, hl, _, h, _ => by simp at hl
  | m :: ms, v :: vs, i, os, hl, hr, h, hq => by
    have hl' : vs.length = ms.length := by simpa using hl
    have hr' : ∀ j : Nat, ms[j]? = some Md.O → ∃ a, vs[j]? = some (V.ref a) := fun j hj => by
      obtain ⟨a, e⟩ := hr (j + 1) (by simpa using hj)
      exact ⟨a, by simpa using e⟩
    by_cases hm : m = .O
    · subst hm
      obtain ⟨a, e⟩ := hr 0 (by simp)
      obtain rfl : v = .ref a := by simpa using e
      simp only [outsOf] at h
      split at h
      · rename_i d r h1 h2
        injection h with e; subst e
        refine ⟨hq (i, a, .O) (by simp [oPins]) d h1, outs_ok hl' hr' h2 fun q hq' => hq q (by simp [oPins, hq'])⟩
      · cases h
    · have e1 : outsOf ε (m :: ms) i = outsOf ε ms (i + 1) := by
        cases m <;> first | exact absurd rfl hm | rfl
      have e2 : oPins (m :: ms) (v :: vs) i = oPins ms vs (i + 1) := by
        cases m <;> first | exact absurd rfl hm | rfl
      rw [e1] at h
      rw [e2] at hq
      have := outs_ok hl' hr' h hq
      cases m <;> first | exact absurd rfl hm | exact this
end VS

set_option maxHeartbeats 1000000
/-! V20: all defs of a table; the law's own call. -/
namespace VS
open PySem PySem.Spec PyProof.Rows L2

/-- a def of the table as it stands behind the top -/
structure Hd (T : Tb) (Gs : Gc) (K : PySem.W.Frag) (mg : Str → Option Value) (df : Df) (f : Addr) (fd : FuncData) (ps : List Str) : Prop where
  gl : mg df.name = some (.ref f)
  kp : PySem.W.keepIn K (.ref f) = true
  bd : ∀ us ws : List Value, us.length = df.np → ws.length = (ps.drop df.np).length → bindArgs fd ⟨us, (ps.drop df.np).zip ws⟩ = pure (ps.zip (us ++ ws))
  pn : ps = df.N.take df.ms.length
  ln : ps.length = df.ms.length
  le : df.ms.length ≤ df.N.length
  ex : ∃ (qual : Str) (params : Arguments) (body : List Stmt) (scope : Scope) (oc : Value) (od : Option Addr) (dV kV doc pm : Value) (an : Option Addr) (cdv ct : Value) (osl : Array (Option Value)),
    fd = PySem.W.fnOf qual qual params body scope dV kV doc pm an cdv ct ∧ K.lookup f = some ⟨oc, od, .func fd, osl⟩ ∧ PySem.W.codeIn K cdv qual = true ∧ FnScope df.N ps scope ∧
      ∃ Mo, chkSs T Gs ⟨df.N, scope, fun _ => true⟩ (df.fr && !df.nw) (oIdx df.ms 0) none df.body (modesOf df) body = some Mo
structure Mh (Gs : Gc) (mg : Str → Option Value) : Prop where
  bl : ∀ x ∈ bltNames, mg x = none
  gs : ∀ p ∈ Gs, ∃ t, mg p.1 = some (.int p.2 t)
def Fns (P : Program) (w : World) (K : PySem.W.Frag) (mg : Str → Option Value) (base : Heap) (T : Tb) (k : Nat) (Φ : Ph) : Prop :=
  ∀ (f : Nat) (df : Df), T f = some df → ∃ a fd ps, mg df.name = some (.ref a) ∧ PySem.W.keepIn K (.ref a) = true ∧ BindsK K fd ps df.np ∧ (ps.length = df.ms.length ∧ ps = df.N.take df.ms.length) ∧ FnG P w K mg base CX0 k a fd ps (spV K df (Φ f))

theorem rv_call {fr : Bool} {K : PySem.W.Frag} {F : VS.AP} {H H1 : Hp} {df : Df} {vs : List V} {ε : Ev} {v : V} {d : VS.D} {os : List VS.D} (hv : ∀ j : Nat, df.ms[j]? = some Md.O → ∃ a, vs[j]? = some (V.ref a)) (hl : vs.length = df.ms.length)
    (h : RV fr (ghOf K F H df.ms vs) ε v d H1) (ho : outsOf ε df.ms 0 = some os) : CallOk fr K H H1 F df.ms vs os v d where
  keep := fun b o n e => h.frame b o (fun z => n (io_gh.mp z)) e
  there := fun b ⟨j, h1, h2⟩ => h.there (j, b, .O) (mem_oPins.mpr ⟨j, by simp, h1, h2, rfl⟩)
  outs := outs_ok hl hv ho h.outs
  rd := h.rd
  new := fun f m => by
    obtain ⟨p, e, g0, g1, g2, g3, g4⟩ := h.new f m
    exact ⟨p, e, g0, g2, g3, outs_ok hl hv ho g4⟩
  imm := h.imm
/-! a list of scalars that no argument holds -/
section
variable {K K' : PySem.W.Frag} {H H' : Hp} {F F' : VS.AP}
theorem sc_of {v : V} {d d' : VS.D} (h : RD K H F v d) (s : scalD d = true) (h' : RD K H F' v d') : scalD d' = true := by
  cases h <;> first | (cases s; done) | (cases h'; rfl)
theorem sc_rd {v : V} {d : VS.D} (h : RD K H F v d) (s : scalD d = true) : RD K' H' F' v d := by
  cases h <;> first | (cases s; done) | constructor
theorem sc_ofs : ∀ {rs ds : List VS.D} {xs : List V}, RDs K H F xs rs → rs.all scalD = true → RDs K H F' xs ds → ds.all scalD = true ∧ ds.length = rs.length
  | [], _, _, h, _, g => by cases h; cases g; exact ⟨rfl, rfl⟩
  | r :: rs, _, _, h, s, g => by
    cases h with
    | cons a b =>
      cases g with
      | cons c d =>
        rw [List.all_cons, Bool.and_eq_true] at s
        obtain ⟨i1, i2⟩ := sc_ofs b s.2 d
        exact ⟨by rw [List.all_cons, sc_of a s.1 c, i1]; rfl, by rw [List.length_cons, List.length_cons, i2]⟩
theorem sc_rds : ∀ {rs : List VS.D} {xs : List V}, RDs K H F xs rs → rs.all scalD = true → RDs K' H' F' xs rs
  | [], _, h, _ => by cases h; exact .nil
  | r :: rs, _, h, s => by
    cases h with
    | cons a b =>
      rw [List.all_cons, Bool.and_eq_true] at s
      exact .cons (sc_rd a s.1) (sc_rds b s.2)
/-- forbidden besides: what already reads as these scalars -/
def bigF (K : PySem.W.Frag) (H : Hp) (F : VS.AP) (rs : List VS.D) : VS.AP := fun b => F b ∨ ∃ xs, H b = some (.lst xs) ∧ RDs K H F xs rs
mutual
theorem RD.big {rs : List VS.D} (hne : rs.isEmpty = false) (hs : rs.all scalD = true) : ∀ {d : VS.D} {v : V}, noSc d = true → RD K H F v d → RD K H (bigF K H F rs) v d
  | .non, _, _, h => by cases h; exact .non
  | .bl b, _, _, h => by cases h; exact .bl b
  | .int b, _, _, h => by cases h; exact .int b
  | .str b, _, _, h => by cases h; exact .str b
  | .lst ds, _, n, h => by
    unfold noSc at n
    rw [Bool.and_eq_true] at n
    cases h with
    | lst f e r =>
      refine .lst (fun z => ?_) e (RDs.big hne hs n.2 r)
      rcases z with z | ⟨xs, e', r'⟩
      · exact f z
      · rw [e] at e'
        injection e' with e'; injection e' with e'
        subst e'
        obtain ⟨i1, i2⟩ := sc_ofs r' hs r
        have : ds.isEmpty = false := by
          cases ds with
          | nil => cases rs with
            | nil => cases hne
            | cons => cases i2
          | cons => rfl
        rw [i1, this] at n
        cases n.1
  | .tup ds, _, n, h => by
    cases h with
    | tup f e r =>
      refine .tup (fun z => ?_) e (RDs.big hne hs n r)
      rcases z with z | ⟨xs, e', r'⟩
      · exact f z
      · rw [e] at e'; cases e'
  | .dct _, _, n, _ => by cases n
  | .set _, _, n, _ => by cases n
  | .scr _, _, n, _ => by cases n
theorem RDs.big {rs : List VS.D} (hne : rs.isEmpty = false) (hs : rs.all scalD = true) : ∀ {ds : List VS.D} {vs : List V}, noScs ds = true → RDs K H F vs ds → RDs K H (bigF K H F rs) vs ds
  | [], _, _, h => by cases h; exact .nil
  | d :: ds, _, n, h => by
    unfold noScs at n
    rw [Bool.and_eq_true] at n
    cases h with
    | cons a b => exact .cons (RD.big hne hs n.1 a) (RDs.big hne hs n.2 b)
end
theorem RDT.big {rs : List VS.D} (hne : rs.isEmpty = false) (hs : rs.all scalD = true) {d : VS.D} {v : V} (n : noSc d = true) (h : RDT K H F v d) : RDT K H (bigF K H F rs) v d := by
  cases h with
  | of h => exact .of (RD.big hne hs n h)
  | lst e r =>
    unfold noSc at n
    rw [Bool.and_eq_true] at n
    exact .lst e (RDs.big hne hs n.2 r)
  | dct e r => cases n
  | set e r k => cases n
theorem args_big {rs : List VS.D} (hne : rs.isEmpty = false) (hs : rs.all scalD = true) : ∀ {ms : List Md} {vs : List V} {ds : List VS.D}, noO ms = true → noScs ds = true → ArgsOk K H F ms vs ds → ArgsOk K H (bigF K H F rs) ms vs ds
  | [], [], [], _, _, _ => trivial
  | m :: ms, v :: vs, d :: ds, o, n, h => by
    unfold noScs at n
    unfold noO at o
    rw [List.all_cons, Bool.and_eq_true] at o
    rw [Bool.and_eq_true] at n
    refine ⟨?_, args_big hne hs o.2 n.2 h.2⟩
    have h1 := h.1
    cases m with
    | S => exact RD.big hne hs n.1 h1
    | B => exact RDT.big hne hs n.1 h1
    | O => cases o.1
    | L => exact h1
  | [], _ :: _, _, _, _, h => by cases h
  | [], [], _ :: _, _, _, h => by cases h
  | _ :: _, [], _, _, _, h => by cases h
  | _ :: _, _ :: _, [], _, _, h => by cases h
theorem outs_noO : ∀ {ms : List Md} {vs : List V} {os : List VS.D}, noO ms = true → OutsOk K H F ms vs os → OutsOk K' H' F' ms vs os
  | [], [], _, _, h => h
  | [], _ :: _, _, _, h => by cases h
  | m :: ms, [], _, o, h => by
    cases m <;> first | (cases h; done) | (unfold noO at o; rw [List.all_cons, Bool.and_eq_true] at o; cases o.1; done)
  | m :: ms, v :: vs, os, o, h => by
    unfold noO at o
    rw [List.all_cons, Bool.and_eq_true] at o
    cases m with
    | O => cases o.1
    | S => exact outs_noO (ms := ms) o.2 h
    | B => exact outs_noO (ms := ms) o.2 h
    | L => exact outs_noO (ms := ms) o.2 h
theorem noO_arg : ∀ {ms : List Md} {vs : List V} {b : Addr}, noO ms = true → ¬ OArg ms vs b := fun {ms vs b} o ⟨j, h1, _⟩ => by
  have := List.all_eq_true.mp o _ (List.mem_of_getElem? h1)
  cases this
end
/-- the answer is looked at -/
theorem spV_nw {K : PySem.W.Frag} {df : Df} {m : List VS.D → Option (VS.D × List VS.D)} {vs : List V} {H : Hp} {Q : V → Hp → Prop} {E : XK}
    (h : spV K df (fun ds => (m ds).bind fun (r, os) => if (freshD r ds && noO df.ms) = true then some (r, os) else none) vs H Q E) : spV K { df with fr := false } m vs H Q E := by
  obtain ⟨hl, F, ds, r, os, hT, hA, hD, hm, hQ⟩ := h
  obtain ⟨⟨r', os'⟩, h1, h2⟩ := Option.bind_eq_some_iff.mp hm
  dsimp only at h2
  split at h2
  rotate_left
  · cases h2
  rename_i hc
  injection h2 with h2; injection h2 with e1 e2
  subst e1 e2
  rw [Bool.and_eq_true] at hc
  obtain ⟨hf, ho⟩ := hc
  by_cases hmu : isMut r' = true
  · cases r' with
    | lst rs =>
      have hf' : (!rs.isEmpty && rs.all scalD && noScs ds) = true := hf
      rw [Bool.and_eq_true, Bool.and_eq_true] at hf'
      obtain ⟨⟨f1, f2⟩, f3⟩ := hf'
      have f1' : rs.isEmpty = false := by simpa using f1
      refine ⟨hl, bigF K H F rs, ds, .lst rs, os', ?_, args_big f1' f2 ho f3 hA, hD, h1, fun v H1 o => ?_⟩
      · intro b z
        rcases z with z | ⟨xs, e, _⟩
        · exact hT b z
        · rw [e]; simp
      · have hsub : ∀ b, F b → bigF K H F rs b := fun b z => .inl z
        refine hQ v H1 ⟨o.keep, o.there, outs_noO ho o.outs, o.rd.less hsub, fun _ _ => ?_, fun _ => rfl⟩
        have rd := o.rd
        cases rd with
        | lst f e r =>
          rename_i a xs
          refine ⟨a, rfl, ?_, by rw [e]; simp, .lst e (sc_rds r f2), outs_noO ho o.outs⟩
          cases q : H a with
          | none => rfl
          | some u =>
            have k := o.keep a u (noO_arg ho) q
            rw [e] at k
            injection k with k
            subst k
            exact absurd (.inr ⟨xs, q, sc_rds r f2⟩) f
    | _ => first | (cases hmu; done) | (cases hf; done)
  · refine ⟨hl, F, ds, r', os', hT, hA, hD, h1, fun v H1 o => hQ v H1 ⟨o.keep, o.there, o.outs, o.rd, fun _ z => absurd z hmu, fun _ => ?_⟩⟩
    cases r' <;> first | rfl | (cases hf; done)
theorem FnG.imp {P : Program} {w : World} {K : PySem.W.Frag} {mg : Str → Option Value} {base : Heap} {CX : CXT} {k : Nat} {f : Addr} {fd : FuncData} {ps : List Str} {sp sp' : Sp}
    (F : FnG P w K mg base CX k f fd ps sp) (h : ∀ {vs H Q E}, sp' vs H Q E → sp vs H Q E) : FnG P w K mg base CX k f fd ps sp' := ⟨fun z => F.len (h z), fun hg hr he hb hv z => F.run hg hr he hb hv (h z)⟩
theorem fn_ok0 {T : Tb} {Φ : Ph} {Gs : Gc} {k : Nat} {P : Program} {w : World} {K : PySem.W.Frag} {mg : Str → Option Value} {base : Heap} {df : Df} {f : Addr} {fd : FuncData} {ps : List Str}
    (B : Mh Gs mg) (h : Hd T Gs K mg df f fd ps) (hF : Fns P w K mg base T k Φ) : FnG P w K mg base CX0 (k + 1) f fd ps (spV K { df with fr := df.fr && !df.nw } (runD T Φ df)) := by
  obtain ⟨qual, params, body, scope, oc, od, dV, kV, doc, pm, an, cdv, ct, osl, rfl, lk, hcd, S, Mo, hc⟩ := h.ex
  refine FnG.of_body lk hcd S (fun {vs H Q E} z => z.1.trans h.ln.symm) fun {A outer s H vs Q E} hg hr hsp => ?_
  obtain ⟨hvl, F, ds, r, os, hT, hA, hD, hm, hQ⟩ := hsp
  replace hvl : vs.length = df.ms.length := hvl
  replace hA : ArgsOk K H F df.ms vs ds := hA
  replace hD : Dist df.ms vs ds := hD
  replace hQ : ∀ v H1, CallOk (df.fr && !df.nw) K H H1 F df.ms vs os v r → Q v H1 := hQ
  have Xo : XOk T Φ Gs k ⟨df.N, scope, fun _ => true⟩ (cxOf CX0 P w K mg base df.N qual scope f cdv A outer s H E).nox :=
    { N := rfl, nd := S.nd, sc := rfl, fn := rfl, calm := rfl, xe := rfl, gd := hg, room := hr, bl := B.bl, gs := B.gs, fns := hF }
  have hv : ∀ j : Nat, df.ms[j]? = some Md.O → ∃ a, vs[j]? = some (V.ref a) := fun j hj => by
    have hl := hA.len
    have hi := (List.getElem?_eq_some_iff.mp hj).1
    obtain ⟨v, e⟩ := get_of_lt (l := vs) (i := j) (by omega)
    obtain ⟨d, e2⟩ := get_of_lt (l := ds) (i := j) (by omega)
    obtain ⟨_, a, rfl, _⟩ := hA.get hj e e2
    exact ⟨a, e⟩
  have body_ok := sSs df.body (G := ghOf K F H df.ms vs) (fr := df.fr && !df.nw) Xo rfl (fun p hp => by
      obtain ⟨j, e1, e2, _⟩ := mem_oPins.mp hp
      rw [e1]; exact mem_oIdx e2) (fun p hp => by
      obtain ⟨j, e1, e2, _⟩ := mem_oPins.mp hp
      rw [show p.1 = j by omega, md_modes, e2]; decide) (fun _ z => by cases z) hc
  refine ⟨_, body_ok.nox, ?_⟩
  have R0 := rel_start hT hA hD h.le
  unfold runD at hm
  rw [if_pos hA.len.2] at hm
  split at hm
  · rename_i d ε hd
    obtain ⟨os', ho, e⟩ := Option.map_eq_some_iff.mp hm
    injection e with e1 e2
    subst e1 e2
    exact ⟨_, _, R0, hd, fun v H1 rv => hQ v H1 (rv_call hv hvl rv ho)⟩
  · rename_i ε hd
    obtain ⟨os', ho, e⟩ := Option.map_eq_some_iff.mp hm
    injection e with e1 e2
    subst e1 e2
    exact ⟨_, _, R0, hd, fun M' _ σ' H1 R1 => hQ .non H1 (rv_call hv hvl (RV.atom R1 (fun _ => .non) rfl rfl) ho)⟩
  · cases hm
theorem fn_ok {T : Tb} {Φ : Ph} {Gs : Gc} {k : Nat} {P : Program} {w : World} {K : PySem.W.Frag} {mg : Str → Option Value} {base : Heap} {df : Df} {f : Addr} {fd : FuncData} {ps : List Str}
    (B : Mh Gs mg) (h : Hd T Gs K mg df f fd ps) (hF : Fns P w K mg base T k Φ) : FnG P w K mg base CX0 (k + 1) f fd ps (spV K df (runN T Φ df)) := by
  have h0 := fn_ok0 B h hF
  refine h0.imp fun {vs H Q E} z => ?_
  by_cases e : df.nw = true
  · rw [show (df.fr && !df.nw) = false by rw [e]; simp]
    refine spV_nw (df := df) ?_
    have : runN T Φ df = fun ds => (runD T Φ df ds).bind fun (r, os) => if (freshD r ds && noO df.ms) = true then some (r, os) else none := by
      funext ds
      unfold runN
      rw [if_pos e]
    rw [this] at z
    exact z
  · have e' : df.nw = false := by simpa using e
    rw [show (df.fr && !df.nw) = df.fr by rw [e']; simp]
    have : runN T Φ df = runD T Φ df := by
      funext ds
      unfold runN
      rw [if_neg e]
    rw [this] at z
    exact z
theorem fns_ok {T : Tb} {Gs : Gc} {P : Program} {w : World} {K : PySem.W.Frag} {mg : Str → Option Value} {base : Heap} (B : Mh Gs mg) (h : ∀ (f : Nat) (df : Df), T f = some df → ∃ a fd ps, Hd T Gs K mg df a fd ps) : ∀ n : Nat, Fns P w K mg base T n (Ga T n)
  | 0 => fun f df hf => by
    obtain ⟨a, fd, ps, hd⟩ := h f df hf
    refine ⟨a, fd, ps, hd.gl, hd.kp,  fun s us ws _ l1 l2 => .of_eq (hd.bd us ws l1 l2), ⟨hd.ln, hd.pn⟩, fun {vs H Q E} z => z.1.trans hd.ln.symm, fun {A outer s H args us vs Q E} _ _ _ _ _ z => ?_⟩
    obtain ⟨_, F, ds, r, os, _, _, _, hm, _⟩ := z
    cases hm
  | n + 1 => fun f df hf => by
    obtain ⟨a, fd, ps, hd⟩ := h f df hf
    refine ⟨a, fd, ps, hd.gl, hd.kp,  fun s us ws _ l1 l2 => .of_eq (hd.bd us ws l1 l2), ⟨hd.ln, hd.pn⟩, ?_⟩
    have e : Ga T (n + 1) f = runN T (Ga T n) df := by
      funext ds
      show (T f).bind _ = _
      rw [hf]; rfl
    rw [e]
    exact fn_ok B hd (fns_ok B h n)
/-- the law is called: the script alone is tracked, or it is one of the module's own things -/
theorem law_g {P : Program} {w : World} {K : PySem.W.Frag} {mg mb : Str → Option Value} {k : Nat} {fa a : Addr} {fd : FuncData} {x : Str} {sp : Sp} {s : Shared} {vs : List Value} {ns : List Int}
    (kin : K.In s.heap) (n1 : s.heap.Ns mainGlobals mg) (n2 : s.heap.Ns builtinsNs mb) (n3 : ∀ y : Str, y ≠ "__name__" → mb y = bootBuiltins y) (n4 : s.heap.NoLimit) (gn : s.gens = #[])
    (ob : s.heap.get? a = some { cls := .type "list", data := .seq vs.toArray }) (is : IntsAre vs ns) (sz : ns.length ≤ sizeLine) (rm : Room k callerA)
    (G : ∀ base : Heap, FnG P w K mg base CX0 k fa fd [x] sp) (bnd : ∀ (s : Shared) (u : Value), BindsTo s fd ⟨[u], []⟩ [(x, u)])
    (ask : ∀ H : Hp, (∀ F, (∀ b, ¬ F b) → RD K H F (.ref a) (.scr ns)) → sp [.ref a] H (fun v _ => v = .bl true) fun _ _ _ => False) :
    codeAny (model P w) callerA (.call (.ref fa) ⟨[.ref a], []⟩) (fun r s' => r = .ok (.ret (.bool true)) ∧ OldK s.heap s'.heap ∧ s'.os = s.os ∧ AllBare s'.gens) s := by
  have hvals := vals_ints is
  have hlv := is.length
  have one : ∀ H : Hp, (∀ b u, H b = some u → b = a ∧ K.lookup a = none ∧ ∃ o xs, u = .frz o (.lst xs)) → (∀ F, (∀ b, ¬ F b) → RD K H F (.ref a) (.scr ns)) → HOk P w H s.heap →
      codeAny (model P w) callerA (.call (.ref fa) ⟨[.ref a], []⟩) (fun r s' => r = .ok (.ret (.bool true)) ∧ OldK s.heap s'.heap ∧ s'.os = s.os ∧ AllBare s'.gens) s := by
    intro H tr rd hok
    have un : ∀ {b : Addr} {o : Obj} {es : Array DictEntry} {ep : Nat}, s.heap.get? b = some o → o.data = .dict es ep → H b = none := fun {b o es ep} e d => by
      cases q : H b with
      | none => rfl
      | some u =>
        obtain ⟨rfl, _, _⟩ := tr b u q
        rw [ob] at e
        injection e with e
        subst e
        cases (show Data.seq vs.toArray _ = Data.dict es ep from d)
    have space : ∀ {b : Addr} {m : Str → Option Value}, s.heap.Ns b m → (hidT s.heap H).Ns b m := fun {b m} ⟨o, es, ep, e, d, r⟩ => ⟨o, es, ep, hidT_get e (un e d), d, r⟩
    have kin' : K.In (hidT s.heap H) := fun b o e => by
      refine hidT_get (kin b o e) ?_
      cases q : H b with
      | none => rfl
      | some u =>
        obtain ⟨rfl, z, _⟩ := tr b u q
        rw [z] at e; cases e
    obtain ⟨ml, l1, l2⟩ := n4
    have env : Env0 P w K mg (hidT s.heap H) callerA [] s H := ⟨rfl, ⟨kin', space n1, ⟨mb, space n2, n3⟩, ⟨ml, space l1, l2⟩⟩, fun b o e => of_hidT e, Nat.le_of_eq (hidT_size _ _), trivial, (fun b hb => by cases hb), hok, .of_eq gn⟩
    have run := (G (hidT s.heap H)).run (us := [.ref a]) (vs := [.ref a]) rfl rm env (bnd s (.ref a)) (.cons rfl .nil) (ask H rd)
    refine codeAny_mono run fun r s' z => ?_
    match r, z with
    | .error e, z => exact z.elim
    | .ok .next, z => exact z.elim
    | .ok .brk, z => exact z.elim
    | .ok .cont, z => exact z.elim
    | .ok (.ret u), z =>
      obtain ⟨v, H', os, bare, fut, hok', rv, rfl⟩ := z
      obtain rfl : u = Value.bool true := rv
      refine ⟨rfl, .of_keep fun b o e => ?_, os, bare⟩
      cases q : H b with
      | none => exact fut.keep b o e q (fun y => by cases y) (by simp)
      | some u =>
        obtain ⟨_, _, o', xs, rfl⟩ := tr b u q
        have e1 := (hok b _ q).1
        rw [e] at e1
        injection e1 with e1
        subst e1
        exact (hok' b _ (fut.frzs b _ _ q)).1
  by_cases hk : K.lookup a = none
  · refine one (fun b => if b = a then some (.frz { cls := .type "list", data := .seq vs.toArray } (.lst (ns.map V.int))) else none) (fun b u z => ?_) (fun F hF => .scr (.inl ⟨_, if_pos rfl, hF a⟩)) fun b u z => ?_
    · split at z
      · rename_i e
        injection z with z
        exact ⟨e, hk, _, _, z.symm⟩
      · cases z
    · dsimp only at z
      split at z
      · rename_i e
        subst e
        injection z with z
        subst z
        exact ⟨ob, by rw [List.length_map]; exact sz, vs, _, hvals, ob⟩
      · cases z
  · obtain ⟨o, hk⟩ := Option.ne_none_iff_exists'.mp hk
    have e := kin a o hk
    rw [ob] at e
    injection e with e
    subst e
    exact one (fun _ => none) (fun b u z => by cases z) (fun F hF => .scr (.inr ⟨_, vs.toArray, _, hk, rfl, rfl, rfl, by rw [List.size_toArray, hlv]; exact sz, by simpa using hvals⟩)) (fun b u z => by cases z)
/-- the whole way: what k_head leaves, from the table and the answer on data -/
theorem walkV {l : PySem.W.OpenLaw} {n k : Nat} {q : Program} {loose : List Str} {XP : (Str → Option Value) → Heap → Prop} {YP : World → Heap → Prop} {d : DefRec} {K : Params → PySem.W.Frag} (T : Tb) (Gs : Gc) (L : Nat) (df : Df) (x : Str)
    (hL : T L = some df) (hnp : df.np = 1) (hms : df.ms = [.S]) (hnm : df.name = d.name) (hn : l.most = some n) (hn2 : n ≤ sizeLine) (hdf : d.params.defaults = []) (rm : Room k callerA)
    (hY : ∀ (w : World) (h : Heap), YP w h → (K w.params).In h)
    (hlaw : ∀ ns : List Int, ns.length ≤ n → Ga T k L [.scr ns] = some (.bl true, []))
    (F : ∀ (w : World) (mg : Str → Option Value) (h : Heap), (K w.params).In h → h.Ns mainGlobals mg → Mh Gs mg ∧ (∀ (f : Nat) (df : Df), T f = some df → ∃ a fd ps, Hd T Gs (K w.params) mg df a fd ps)) :
    PySem.W.WalkO q loose XP YP l.row.toRowW d [] (fun f vs => PySem.call f vs) := by
  refine Att.attach_call hn hdf fun w s₀ s mg mb fa o pm cd doc a vs ns G Y ho hd hcd hmg hobj hints hlen hg => ?_
  have kin := hY w _ Y
  obtain ⟨B, hT⟩ := F w mg _ kin G.T.g
  have all := fun base => fns_ok (P := l.prog) (w := w) (base := base) B hT k
  obtain ⟨a0, fd0, ps0, h0⟩ := hT L df hL
  have e0 : a0 = fa := by
    have := h0.gl
    rw [hnm, hmg] at this
    injection this with this; injection this with this; exact this.symm
  subst e0
  -- one function object, whatever the base
  have hps : ∃ y, ps0 = [y] := by
    have := h0.ln
    rw [hms] at this
    exact List.length_eq_one_iff.mp this
  obtain ⟨y, rfl⟩ := hps
  have one : ∀ base : Heap, FnG l.prog w (K w.params) mg base CX0 k a0 fd0 [y] (spV (K w.params) df (Ga T k L)) := fun base => by
    cases k with
    | zero => 
      refine ⟨fun {vs H Q E} z => z.1.trans h0.ln.symm, fun {A outer s H args us vs Q E} _ _ _ _ _ z => ?_⟩
      obtain ⟨_, F, ds, r, os, _, _, _, hm, _⟩ := z
      cases hm
    | succ k =>
      have e : Ga T (k + 1) L = runN T (Ga T k) df := by
        funext ds
        show (T L).bind _ = _
        rw [hL]; rfl
      rw [e]
      exact fn_ok B h0 (fns_ok B hT k)
  refine law_g kin G.T.g G.T.b G.T.builtins G.T.nolimit hg hobj hints (Nat.le_trans hlen hn2) rm one (fun s u => by
    have := h0.bd [u] [] (by rw [hnp]; rfl) (by rw [hnp]; rfl)
    rw [hnp] at this
    exact .of_eq this) fun H rd => ?_
  refine ⟨by rw [hms]; rfl, fun _ => False, [.scr ns], .bl true, [], fun _ z => z.elim, ?_, ?_, hlaw ns hlen, fun v H1 c => ?_⟩
  · rw [hms]; exact ⟨rd _ fun _ z => z, trivial⟩
  · rw [hms]
    refine ⟨fun i j a h1 h2 => ?_, fun i j a d h1 => ?_⟩
    · cases i <;> simp at h1
    · cases i <;> simp at h1
  · exact c.rd.isbl
end VS

set_option maxHeartbeats 1000000
/-! V21: what a claim's head gives. -/
namespace VS
open PySem PySem.Spec PyProof.Rows L2

def AllHd (T : Tb) (Gs : Gc) (K : PySem.W.Frag) (mg : Str → Option Value) : List Df → Prop
  | [] => True
  | df :: r => (∃ a fd ps, Hd T Gs K mg df a fd ps) ∧ AllHd T Gs K mg r
theorem AllHd.mem {T : Tb} {Gs : Gc} {K : PySem.W.Frag} {mg : Str → Option Value} : ∀ {l : List Df}, AllHd T Gs K mg l → ∀ df ∈ l, ∃ a fd ps, Hd T Gs K mg df a fd ps
  | df :: r, h, d, hm => by
    rcases List.mem_cons.mp hm with e | e
    · rw [e]; exact h.1
    · exact AllHd.mem h.2 d e
def tbOf (l : List (Nat × Df)) : Tb := fun f => l.lookup f
theorem lookup_mem : ∀ {l : List (Nat × Df)} {f : Nat} {df : Df}, l.lookup f = some df → df ∈ l.map (·.2)
  | (a, b) :: r, f, df, h => by
    rw [List.lookup_cons] at h
    split at h
    · injection h with h; subst h; exact List.mem_cons_self ..
    · exact List.mem_cons_of_mem _ (lookup_mem h)
theorem AllHd.get {l : List (Nat × Df)} {Gs : Gc} {K : PySem.W.Frag} {mg : Str → Option Value} (h : AllHd (tbOf l) Gs K mg (l.map (·.2))) (f : Nat) (df : Df) (hf : tbOf l f = some df) : ∃ a fd ps, Hd (tbOf l) Gs K mg df a fd ps := h.mem df (lookup_mem hf)
theorem hd_mk {T : Tb} {Gs : Gc} {K : PySem.W.Frag} {h : Heap} {mg : Str → Option Value} (X : K.In h) (G : h.Ns mainGlobals mg) (df : Df) (st : Stmt) (ps : List Str) (x : Str) {f : Addr} {od an : Option Addr} {sl : Array (Option Value)} {oc kV dc pm cd ct : Value}
    (hx : df.name = x) (S : FnScope df.N ps (defScope st)) (hl : ps.length = df.ms.length ∧ df.ms.length ≤ df.N.length)
    (bd : ∀ (kV doc pm : Value) (an : Option Addr) (cdv ct : Value) (us ws : List Value), us.length = df.np → ws.length = (ps.drop df.np).length → bindArgs (PySem.W.fnOf x x (defArgs st) (defBody st) (defScope st) .none kV doc pm an cdv ct) ⟨us, (ps.drop df.np).zip ws⟩ = pure (ps.zip (us ++ ws)))
    (chk : (chkSs T Gs ⟨df.N, defScope st, fun _ => true⟩ (df.fr && !df.nw) (oIdx df.ms 0) none df.body (modesOf df) (defBody st)).isSome = true)
    (h1 : PySem.W.nsIn K mainGlobals x = some (some (.ref f))) (h2 : K.lookup f = some ⟨oc, od, .func (PySem.W.fnOf x x (defArgs st) (defBody st) (defScope st) .none kV dc pm an cd ct), sl⟩) (h3 : PySem.W.codeIn K cd x = true) (h4 : PySem.W.keepIn K (.ref f) = true) :
    ∃ a fd ps, Hd T Gs K mg df a fd ps := by
  subst hx
  refine ⟨f, _, ps, PySem.W.mg_of X G h1, h4, bd kV dc pm an cd ct, (by rw [← hl.1]; exact S.pre.symm), hl.1, hl.2, df.name, defArgs st, defBody st, defScope st, oc, od, .none, kV, dc, pm, an, cd, ct, sl, rfl, h2, h3, S, ?_⟩
  obtain ⟨Mo, e⟩ := Option.isSome_iff_exists.mp chk
  exact ⟨Mo, e⟩
def NoBl (K : PySem.W.Frag) : List Str → Prop
  | [] => True
  | x :: r => PySem.W.nsIn K mainGlobals x = some none ∧ NoBl K r
theorem NoBl.all {K : PySem.W.Frag} {h : Heap} {mg : Str → Option Value} (X : K.In h) (G : h.Ns mainGlobals mg) : ∀ {l : List Str}, NoBl K l → ∀ x ∈ l, mg x = none
  | y :: r, z, x, hx => by
    rcases List.mem_cons.mp hx with e | e
    · rw [e]; exact PySem.W.mg_none_of X G z.1
    · exact NoBl.all X G z.2 x e
theorem gs_nil {K : PySem.W.Frag} : ∀ p ∈ ([] : Gc), ∃ t, PySem.W.nsIn K mainGlobals p.1 = some (some (.int p.2 t)) := fun _ h => by cases h
theorem gs_cons {K : PySem.W.Frag} {x : Str} {i : Int} {r : Gc} (h : ∃ t, PySem.W.nsIn K mainGlobals x = some (some (.int i t))) (g : ∀ p ∈ r, ∃ t, PySem.W.nsIn K mainGlobals p.1 = some (some (.int p.2 t))) : ∀ p ∈ (x, i) :: r, ∃ t, PySem.W.nsIn K mainGlobals p.1 = some (some (.int p.2 t)) := fun p hp => by
  rcases List.mem_cons.mp hp with e | hp
  · rw [e]; exact h
  · exact g p hp
theorem mh_mk {Gs : Gc} {K : PySem.W.Frag} {h : Heap} {mg : Str → Option Value} (X : K.In h) (G : h.Ns mainGlobals mg) (b : NoBl K bltNames) (g : ∀ p ∈ Gs, ∃ t, PySem.W.nsIn K mainGlobals p.1 = some (some (.int p.2 t))) : Mh Gs mg :=
  ⟨NoBl.all X G b, fun p hp => by
    obtain ⟨t, e⟩ := g p hp
    exact ⟨t, PySem.W.mg_of X G e⟩⟩
end VS

set_option maxHeartbeats 1000000
/-! W0: the worth of codes with what follows (continuations), for working answers out. -/
namespace VS
open PySem L2

def W {A : Type} (x : Option A) (Q : A → Prop) : Prop := ∃ a, x = some a ∧ Q a
section
variable {A α : Type}
def kO (x : Option α) (κ : α → Option A) : Option A := x.bind κ
def k1 (p : P1) (d : D) (κ : D → Option A) : Option A := (op1 p d).bind κ
def k2 (p : P2) (d e : D) (κ : D → Option A) : Option A := (op2 p d e).bind κ
def kA (p : P2) (d e : D) (κ : D → Option A) : Option A := (opA p d e).bind κ
def kT (d : D) (κ : Bool → Option A) : Option A := (truth d).bind κ
def kif (c : Bool) (a b : Option A) : Option A := if c = true then a else b
def kE (ε : Ev) (κ : Ev → Option A) : Option A := κ ε
def kB (d : D) (κ : Bool → Option A) : Option A := match d with
  | .bl b => κ b
  | _ => none
def kI (d : D) (κ : Int → Option A) : Option A := match d with
  | .int b => κ b
  | _ => none
def kDc (d : D) (κ : List (Key × D) → Option A) : Option A := match d with
  | .dct kvs => κ kvs
  | _ => none
def kL (d : D) (κ : List D → Option A) : Option A := match d with
  | .lst b => κ b
  | _ => none
def kSq (d : D) (κ : List D → Option A) : Option A := (seqOf d).bind κ
/-- a name read late -/
def dL (a : C) (d : D) (ε : Ev) (κ : D → Option A) : Option A := match a with
  | .var i => kO (look ε i) κ
  | _ => κ d
def dLs : Cs → List D → Ev → (List D → Option A) → Option A
  | .nil, [], _, κ => κ []
  | .cons a r, d :: ds, ε, κ => dL a d ε fun d' => dLs r ds ε fun ds' => κ (d' :: ds')
  | _, _, _, _ => none
def dOut (ms : List Md) (as : Cs) (os : List D) (ε : Ev) (κ : Ev → Option A) : Option A := (outsE ms as os ε).bind κ
def kM (ms : List Md) (ds : List D) (a : Option A) : Option A := if oMut ms ds = false then none else a
def kN (f : Ev → Option A) (κ : R → Option A) : R → Option A
  | .nx ε => f ε
  | .rt d ε => κ (.rt d ε)
  | .bk ε => κ (.bk ε)
  | .ct ε => κ (.ct ε)
def dTg (g : Tg) (d : D) (ε : Ev) (κ : Ev → Option A) : Option A := (tgD g d ε).bind κ
def kF (J : List Nat) (f : Ev → Option A) (κ : R → Option A) : R → Option A
  | .nx ε => f ε
  | .ct ε => f ε
  | .bk ε => κ (.nx (wipeE ε J))
  | .rt d ε => κ (.rt d ε)
def forC (J : List Nat) (f : D → Ev → (R → Option A) → Option A) : List D → Ev → (R → Option A) → Option A
  | [], ε, κ => κ (.nx (wipeE ε J))
  | d :: ds, ε, κ => f d (wipeE ε J) (kF J (fun ε1 => forC J f ds ε1 κ) κ)
def whilC (J : List Nat) (t : Ev → (Bool → Ev → Option A) → Option A) (f : Ev → (R → Option A) → Option A) : Nat → Ev → (R → Option A) → Option A
  | 0, _, _ => none
  | n + 1, ε, κ => t (wipeE ε J) fun c ε1 => kif c (f ε1 (kF J (fun ε2 => whilC J t f n ε2 κ) κ)) (κ (.nx (wipeE ε1 J)))
def compC (f : D → Ev → (D → Ev → Option A) → (Ev → Option A) → Option A) : List D → Ev → List D → (List D → Ev → Option A) → Option A
  | [], ε, acc, κ => κ acc ε
  | d :: ds, ε, acc, κ => f d ε (fun y ε3 => kif (decide (acc.length < lim)) (compC f ds ε3 (acc ++ [y]) κ) none) (fun ε2 => compC f ds ε2 acc κ)
end

section
variable {A : Type}
mutual
def dE (T : Tb) (Φ : Ph) : C → Ev → (D → Ev → Option A) → Option A
  | .var i, ε, κ => kO (look ε i) fun d => κ d ε
  | .non, ε, κ => κ .non ε
  | .bl b, ε, κ => κ (.bl b) ε
  | .int i, ε, κ => κ (.int i) ε
  | .str x, ε, κ => κ (.str x) ε
  | .gint _ i, ε, κ => κ (.int i) ε
  | .p1 p a, ε, κ => dE T Φ a ε fun d ε1 => k1 p d fun r => κ r ε1
  | .p2 p a b, ε, κ => dE T Φ a ε fun d ε1 => dE T Φ b ε1 fun e ε2 => dL a d ε2 fun d' => k2 p d' e fun r => κ r ε2
  | .slc a lo hi, ε, κ => dE T Φ a ε fun d ε1 => dO T Φ lo ε1 fun l ε2 => dO T Φ hi ε2 fun h ε3 => dL a d ε3 fun d' => kO (slcD d' l h) fun r => κ r ε3
  | .and_ a b, ε, κ => dE T Φ a ε fun d ε1 => kB d fun c => kif c (dE T Φ b ε1 κ) (κ (.bl false) ε1)
  | .or_ a b, ε, κ => dE T Φ a ε fun d ε1 => kB d fun c => kif c (κ (.bl true) ε1) (dE T Φ b ε1 κ)
  | .orv a b, ε, κ => dE T Φ a ε fun d ε1 => kO (truth d) fun c => kif c (κ d ε1) (dE T Φ b ε1 κ)
  | .ife t a b, ε, κ => dT T Φ t ε fun c ε1 => kif c (dE T Φ a ε1 κ) (dE T Φ b ε1 κ)
  | .chain p q a b c, ε, κ => dE T Φ a ε fun d ε1 => dE T Φ b ε1 fun e ε2 => dL a d ε2 fun d' => k2 p d' e fun x => kB x fun y => kif y (dE T Φ c ε2 fun f ε3 => k2 q e f fun r => κ r ε3) (κ (.bl false) ε2)
  | .lst as, ε, κ => dEs T Φ as ε fun ds ε1 => kif (decide (ds.length ≤ lim)) (κ (.lst ds) ε1) none
  | .tup as, ε, κ => dEs T Φ as ε fun ds ε1 => kif (decide (ds.length ≤ lim)) (κ (.tup ds) ε1) none
  | .call f as, ε, κ => dEs T Φ as ε fun ds ε1 => dLs as ds ε1 fun ds' => kO (T f) fun df => kM df.ms ds' (kO (Φ f ds') fun r => dOut df.ms as r.2 ε1 fun ε2 => κ r.1 ε2)
  | .comp own g it t e, ε, κ => dI T Φ it ε fun ds ε1 => compC (fun d ε2 ky kn => dTg g d (wipeE ε2 own) fun ε3 => dT T Φ t ε3 fun c ε4 => kif c (dE T Φ e ε4 ky) (kn ε4)) ds ε1 [] fun ys ε2 => kE (backE ε1 ε2 own) fun ε3 => κ (.lst ys) ε3
def dEs (T : Tb) (Φ : Ph) : Cs → Ev → (List D → Ev → Option A) → Option A
  | .nil, ε, κ => κ [] ε
  | .cons a r, ε, κ => dE T Φ a ε fun d ε1 => dEs T Φ r ε1 fun ds ε2 => κ (d :: ds) ε2
def dO (T : Tb) (Φ : Ph) : CO → Ev → (Option Int → Ev → Option A) → Option A
  | .none, ε, κ => κ none ε
  | .some a, ε, κ => dE T Φ a ε fun d ε1 => kI d fun i => κ (some i) ε1
def dI (T : Tb) (Φ : Ph) : CI → Ev → (List D → Ev → Option A) → Option A
  | .seq a, ε, κ => dE T Φ a ε fun d ε1 => kSq d fun ds => κ ds ε1
  | .rng1 a, ε, κ => dE T Φ a ε fun d ε1 => kI d fun j => kif (okR j) (κ (rngD 0 j.toNat) ε1) none
  | .rng2 a b, ε, κ => dE T Φ a ε fun d ε1 => dE T Φ b ε1 fun e ε2 => kI d fun i => kI e fun j => kif (okR i && okR j) (κ (rngD i (j - i).toNat) ε2) none
  | .zip a b, ε, κ => dE T Φ a ε fun d ε1 => dE T Φ b ε1 fun e ε2 => dL a d ε2 fun d' => kL d' fun xs => kL e fun ys => κ (zipD xs ys) ε2
  | .enum a, ε, κ => dE T Φ a ε fun d ε1 => kL d fun xs => κ (enumD 0 xs) ε1
def dT (T : Tb) (Φ : Ph) : C → Ev → (Bool → Ev → Option A) → Option A
  | .and_ a b, ε, κ => dT T Φ a ε fun c ε1 => kif c (dT T Φ b ε1 κ) (κ false ε1)
  | .or_ a b, ε, κ => dT T Φ a ε fun c ε1 => kif c (κ true ε1) (dT T Φ b ε1 κ)
  | .p1 p a, ε, κ => match p with
    | .not_ => dT T Φ a ε fun c ε1 => κ (!c) ε1
    | p => dE T Φ a ε fun d ε1 => k1 p d fun r => kT r fun c => κ c ε1
  | .p2 p a b, ε, κ => dE T Φ a ε fun d ε1 => dE T Φ b ε1 fun e ε2 => dL a d ε2 fun d' => k2 p d' e fun r => kT r fun c => κ c ε2
  | .bl b, ε, κ => κ b ε
  | .var i, ε, κ => kO (look ε i) fun d => kT d fun c => κ c ε
  | .chain p q a b c, ε, κ => dE T Φ a ε fun d ε1 => dE T Φ b ε1 fun e ε2 => dL a d ε2 fun d' => k2 p d' e fun x => kB x fun y => kif y (dE T Φ c ε2 fun f ε3 => k2 q e f fun r => kT r fun z => κ z ε3) (κ false ε2)
  | .call f as, ε, κ => dEs T Φ as ε fun ds ε1 => dLs as ds ε1 fun ds' => kO (T f) fun df => kM df.ms ds' (kO (Φ f ds') fun r => dOut df.ms as r.2 ε1 fun ε2 => kT r.1 fun c => κ c ε2)
  | _, _, _ => none
end
mutual
def dS (T : Tb) (Φ : Ph) : S → Ev → (R → Option A) → Option A
  | .set _ i e, ε, κ => dE T Φ e ε fun d ε1 => kE (putI ε1 i d) fun ε2 => κ (.nx ε2)
  | .tgt g e, ε, κ => dE T Φ e ε fun d ε1 => dTg g d ε1 fun ε2 => κ (.nx ε2)
  | .par i j a b, ε, κ => dE T Φ a ε fun d ε1 => dE T Φ b ε1 fun e ε2 => kE (putI (putI ε2 i d) j e) fun ε3 => κ (.nx ε3)
  | .sub i ix e, ε, κ => kO (look ε i) fun x0 => kL x0 fun _ => dE T Φ e ε fun d ε1 => dE T Φ ix ε1 fun k ε2 => kO (look ε2 i) fun x => kL x fun xs => kI k fun k => kO (ixN xs.length k) fun j => kE (putI ε2 i (.lst (xs.set j d))) fun ε3 => κ (.nx ε3)
  | .dput i ix e, ε, κ => kO (look ε i) fun x0 => kDc x0 fun _ => dE T Φ e ε fun d ε1 => dE T Φ ix ε1 fun k ε2 => kO (look ε2 i) fun x => kDc x fun kvs => kI k fun k => kif (decide (kvs.length < lim)) (kE (putI ε2 i (.dct (putKD kvs (.inl k) d))) fun ε3 => κ (.nx ε3)) none
  | .app i e, ε, κ => kO (look ε i) fun x0 => kL x0 fun _ => dE T Φ e ε fun d ε1 => kO (look ε1 i) fun x => kL x fun xs => kif (decide (xs.length < lim)) (kE (putI ε1 i (.lst (xs ++ [d]))) fun ε2 => κ (.nx ε2)) none
  | .ext i e, ε, κ => kO (look ε i) fun x0 => kL x0 fun _ => dE T Φ e ε fun d ε1 => kO (look ε1 i) fun x => kL x fun xs => kL d fun ys => kif (decide (xs.length + ys.length ≤ lim)) (kE (putI ε1 i (.lst (xs ++ ys))) fun ε2 => κ (.nx ε2)) none
  | .clr i, ε, κ => kO (look ε i) fun x => kL x fun _ => kE (putI ε i (.lst [])) fun ε1 => κ (.nx ε1)
  | .appT a e, ε, κ => dE T Φ a ε fun x ε1 => dE T Φ e ε1 fun d ε2 => kL x fun xs => kif (decide (xs.length < lim)) (κ (.nx ε2)) none
  | .aug p i e, ε, κ => kO (look ε i) fun x => dE T Φ e ε fun d ε1 => kA p x d fun r => kE (putI ε1 i r) fun ε2 => κ (.nx ε2)
  | .ex e, ε, κ => dE T Φ e ε fun _ ε1 => κ (.nx ε1)
  | .ret e, ε, κ => dE T Φ e ε fun d ε1 => κ (.rt d ε1)
  | .retO i, ε, κ => kO (look ε i) fun d => kif (isImm d) none (κ (.rt d ε))
  | .retN, ε, κ => κ (.rt .non ε)
  | .ifs t a b, ε, κ => dT T Φ t ε fun c ε1 => kif c (dSs T Φ a ε1 κ) (dSs T Φ b ε1 κ)
  | .fors J g it b, ε, κ => dI T Φ it ε fun ds ε1 => forC J (fun d ε2 κ2 => dTg g d ε2 fun ε3 => dSs T Φ b ε3 κ2) ds ε1 κ
  | .whil J n t b, ε, κ => whilC J (dT T Φ t) (dSs T Φ b) n ε κ
  | .brk, ε, κ => κ (.bk ε)
  | .cnt, ε, κ => κ (.ct ε)
  | .pas, ε, κ => κ (.nx ε)
  | .dead, ε, κ => none
  | .dem _ s, ε, κ => dS T Φ s ε κ
  | .kil J s, ε, κ => kE (wipeE ε J) fun ε1 => dS T Φ s ε1 κ
def dSs (T : Tb) (Φ : Ph) : Ss → Ev → (R → Option A) → Option A
  | .nil, ε, κ => κ (.nx ε)
  | .cons s r, ε, κ => dS T Φ s ε (kN (fun ε1 => dSs T Φ r ε1 κ) κ)
end
end
section
variable {A : Type} {T : Tb} {Φ : Ph}
theorem dL_eq (a : C) (d : D) (ε : Ev) (κ : D → Option A) : dL a d ε κ = (lateC a d ε).bind κ := by cases a <;> rfl
theorem dLs_eq : ∀ (as : Cs) (ds : List D) (ε : Ev) (κ : List D → Option A), dLs as ds ε κ = (lates as ds ε).bind κ
  | .nil, [], ε, κ => rfl
  | .nil, _ :: _, ε, κ => rfl
  | .cons _ _, [], ε, κ => rfl
  | .cons a r, d :: ds, ε, κ => by
    simp only [dLs, dL_eq, lates, dLs_eq r ds ε]
    cases lateC a d ε with
    | none => rfl
    | some d' => cases lates r ds ε <;> rfl
theorem forC_eq (J : List Nat) (f : D → Ev → (R → Option A) → Option A) (g : D → Ev → Option R) (h : ∀ d ε κ, f d ε κ = (g d ε).bind κ) : ∀ (ds : List D) (ε : Ev) (κ : R → Option A), forC J f ds ε κ = (forL J g ds ε).bind κ
  | [], ε, κ => rfl
  | d :: ds, ε, κ => by
    simp only [forC, forL, h]
    cases g d (wipeE ε J) with
    | none => rfl
    | some r => cases r <;> first | rfl | exact forC_eq J f g h ds _ κ
theorem whilC_eq (J : List Nat) (t : Ev → (Bool → Ev → Option A) → Option A) (f : Ev → (R → Option A) → Option A) (t' : Ev → Option (Bool × Ev)) (g : Ev → Option R) (ht : ∀ ε κ, t ε κ = (t' ε).bind fun p => κ p.1 p.2) (h : ∀ ε κ, f ε κ = (g ε).bind κ) : ∀ (n : Nat) (ε : Ev) (κ : R → Option A), whilC J t f n ε κ = (whileL J t' g n ε).bind κ
  | 0, ε, κ => rfl
  | n + 1, ε, κ => by
    simp only [whilC, whileL, ht, h]
    cases t' (wipeE ε J) with
    | none => rfl
    | some p =>
      obtain ⟨c, ε1⟩ := p
      cases c with
      | false => rfl
      | true =>
        simp only [Option.bind_some, kif, if_pos]
        cases g ε1 with
        | none => rfl
        | some r => cases r <;> first | rfl | exact whilC_eq J t f t' g ht h n _ κ
theorem compC_eq (f : D → Ev → (D → Ev → Option A) → (Ev → Option A) → Option A) (g : D → Ev → Option Ev) (t : Ev → Option (Bool × Ev)) (e : Ev → Option (D × Ev))
    (h : ∀ d ε ky kn, f d ε ky kn = (g d ε).bind fun ε1 => (t ε1).bind fun p => if p.1 = true then (e p.2).bind fun q => ky q.1 q.2 else kn p.2) : ∀ (ds : List D) (ε : Ev) (acc : List D) (κ : List D → Ev → Option A), compC f ds ε acc κ = (compL g t e ds ε acc).bind fun p => κ p.1 p.2
  | [], ε, acc, κ => rfl
  | d :: ds, ε, acc, κ => by
    simp only [compC, compL, h]
    cases g d ε with
    | none => rfl
    | some ε1 =>
      simp only [Option.bind_some]
      cases t ε1 with
      | none => rfl
      | some p =>
        obtain ⟨c, ε2⟩ := p
        cases c with
        | false => exact compC_eq f g t e h ds _ _ κ
        | true =>
          simp only [Option.bind_some, if_pos]
          cases e ε2 with
          | none => rfl
          | some q =>
            obtain ⟨y, ε3⟩ := q
            simp only [Option.bind_some, kif, decide_eq_true_eq]
            split
            · exact compC_eq f g t e h ds _ _ κ
            · rfl
theorem bind_ite' {β : Type} (c : Bool) (x y : Option β) (f : β → Option A) : (if c = true then x else y).bind f = if c = true then x.bind f else y.bind f := by cases c <;> rfl

mutual
theorem dE_eq : ∀ (c : C) (ε : Ev) (κ : D → Ev → Option A), dE T Φ c ε κ = (denE T Φ c ε).bind fun p => κ p.1 p.2
  | .var i, ε, κ => by simp only [dE, denE, kO]; cases look ε i <;> rfl
  | .non, ε, κ => rfl
  | .bl b, ε, κ => rfl
  | .int i, ε, κ => rfl
  | .str x, ε, κ => rfl
  | .gint _ i, ε, κ => rfl
  | .p1 p a, ε, κ => by
    simp only [dE, denE, dE_eq a, k1]
    rcases denE T Φ a ε with _ | ⟨d, ε1⟩
    · rfl
    · simp only [Option.bind_some]; cases op1 p d <;> rfl
  | .p2 p a b, ε, κ => by
    simp only [dE, denE, dE_eq a, dE_eq b, k2, dL_eq]
    rcases denE T Φ a ε with _ | ⟨d, ε1⟩
    · rfl
    · simp only [Option.bind_some]
      rcases denE T Φ b ε1 with _ | ⟨e, ε2⟩
      · rfl
      · simp only [Option.bind_some]
        rcases lateC a d ε2 with _ | d'
        · rfl
        · simp only [Option.bind_some]; cases op2 p d' e <;> rfl
  | .slc a lo hi, ε, κ => by
    simp only [dE, denE, dE_eq a, dO_eq lo, dO_eq hi, kO, dL_eq]
    rcases denE T Φ a ε with _ | ⟨d, ε1⟩
    · rfl
    · simp only [Option.bind_some]
      rcases denO T Φ lo ε1 with _ | ⟨e, ε2⟩
      · rfl
      · simp only [Option.bind_some]
        rcases denO T Φ hi ε2 with _ | ⟨e', ε3⟩
        · rfl
        · simp only [Option.bind_some]
          rcases lateC a d ε3 with _ | d'
          · rfl
          · simp only [Option.bind_some]; cases slcD d' e e' <;> rfl
  | .and_ a b, ε, κ => by
    simp only [dE, denE, dE_eq a, dE_eq b]
    rcases denE T Φ a ε with _ | ⟨d, ε1⟩
    · rfl
    · simp only [Option.bind_some]
      cases d with
      | bl c => cases c <;> rfl
      | _ => rfl
  | .or_ a b, ε, κ => by
    simp only [dE, denE, dE_eq a, dE_eq b]
    rcases denE T Φ a ε with _ | ⟨d, ε1⟩
    · rfl
    · simp only [Option.bind_some]
      cases d with
      | bl c => cases c <;> rfl
      | _ => rfl
  | .orv a b, ε, κ => by
    simp only [dE, denE, dE_eq a, dE_eq b]
    rcases denE T Φ a ε with _ | ⟨d, ε1⟩
    · rfl
    · simp only [Option.bind_some]
      rcases truth d with _ | c
      · rfl
      · cases c <;> rfl
  | .ife t a b, ε, κ => by
    simp only [dE, denE, dT_eq t, dE_eq a, dE_eq b]
    rcases denT T Φ t ε with _ | ⟨c, ε1⟩
    · rfl
    · cases c <;> rfl
  | .chain p q a b c, ε, κ => by
    simp only [dE, denE, dE_eq a, dE_eq b, dE_eq c, k2, dL_eq]
    rcases denE T Φ a ε with _ | ⟨d, ε1⟩
    · rfl
    · simp only [Option.bind_some]
      rcases denE T Φ b ε1 with _ | ⟨e, ε2⟩
      · rfl
      · simp only [Option.bind_some]
        rcases lateC a d ε2 with _ | d'
        · rfl
        · simp only [Option.bind_some]
          rcases op2 p d' e with _ | x
          · rfl
          · cases x with
            | bl y =>
              cases y with
              | false => rfl
              | true =>
                show (denE T Φ c ε2).bind _ = ((denE T Φ c ε2).bind _).bind _
                rcases denE T Φ c ε2 with _ | ⟨f, ε3⟩
                · rfl
                · simp only [Option.bind_some]; cases op2 q e f <;> rfl
            | _ => rfl
  | .lst as, ε, κ => by
    simp only [dE, denE, dEs_eq as, kif, decide_eq_true_eq]
    rcases denEs T Φ as ε with _ | ⟨d, ε1⟩
    · rfl
    · simp only [Option.bind_some]; split <;> rfl
  | .tup as, ε, κ => by
    simp only [dE, denE, dEs_eq as, kif, decide_eq_true_eq]
    rcases denEs T Φ as ε with _ | ⟨d, ε1⟩
    · rfl
    · simp only [Option.bind_some]; split <;> rfl
  | .call f as, ε, κ => by
    simp only [dE, denE, dEs_eq as, kO, dLs_eq, dOut, kM]
    rcases denEs T Φ as ε with _ | ⟨d, ε1⟩
    · rfl
    · simp only [Option.bind_some]
      rcases lates as d ε1 with _ | d'
      · rfl
      · simp only [Option.bind_some]
        rcases T f with _ | df
        · rfl
        · simp only [Option.bind_some]
          split
          · rfl
          · rcases Φ f d' with _ | ⟨r, os⟩
            · rfl
            · simp only [Option.bind_some]; cases outsE df.ms as os ε1 <;> rfl
  | .comp own g it t e, ε, κ => by
    simp only [dE, denE, dI_eq it]
    rcases denI T Φ it ε with _ | ⟨d, ε1⟩
    · rfl
    · simp only [Option.bind_some]
      rw [compC_eq _ (fun d ε2 => tgD g d (wipeE ε2 own)) (denT T Φ t) (denE T Φ e) (fun d ε ky kn => by simp only [dTg, dT_eq t, dE_eq e]; rfl)]
      cases compL (fun d ε2 => tgD g d (wipeE ε2 own)) (denT T Φ t) (denE T Φ e) d ε1 [] <;> rfl
theorem dEs_eq : ∀ (c : Cs) (ε : Ev) (κ : List D → Ev → Option A), dEs T Φ c ε κ = (denEs T Φ c ε).bind fun p => κ p.1 p.2
  | .nil, ε, κ => rfl
  | .cons a r, ε, κ => by
    simp only [dEs, denEs, dE_eq a, dEs_eq r]
    rcases denE T Φ a ε with _ | ⟨d, ε1⟩
    · rfl
    · simp only [Option.bind_some]
      rcases denEs T Φ r ε1 with _ | ⟨e, ε2⟩ <;> rfl
theorem dO_eq : ∀ (c : CO) (ε : Ev) (κ : Option Int → Ev → Option A), dO T Φ c ε κ = (denO T Φ c ε).bind fun p => κ p.1 p.2
  | .none, ε, κ => rfl
  | .some a, ε, κ => by
    simp only [dO, denO, dE_eq a]
    rcases denE T Φ a ε with _ | ⟨d, ε1⟩
    · rfl
    · cases d <;> rfl
theorem dI_eq : ∀ (c : CI) (ε : Ev) (κ : List D → Ev → Option A), dI T Φ c ε κ = (denI T Φ c ε).bind fun p => κ p.1 p.2
  | .seq a, ε, κ => by
    simp only [dI, denI, dE_eq a, kSq]
    rcases denE T Φ a ε with _ | ⟨d, ε1⟩
    · rfl
    · simp only [Option.bind_some]; cases seqOf d <;> rfl
  | .rng1 a, ε, κ => by
    simp only [dI, denI, dE_eq a]
    rcases denE T Φ a ε with _ | ⟨d, ε1⟩
    · rfl
    · cases d with
      | int j => simp only [Option.bind_some, kI, kif]; split <;> rfl
      | _ => rfl
  | .rng2 a b, ε, κ => by
    simp only [dI, denI, dE_eq a, dE_eq b]
    rcases denE T Φ a ε with _ | ⟨d, ε1⟩
    · rfl
    · simp only [Option.bind_some]
      rcases denE T Φ b ε1 with _ | ⟨e, ε2⟩
      · rfl
      · cases d with
        | int i =>
          cases e with
          | int j => simp only [Option.bind_some, kI, kif]; split <;> rfl
          | _ => rfl
        | _ => cases e <;> rfl
  | .zip a b, ε, κ => by
    simp only [dI, denI, dE_eq a, dE_eq b, dL_eq]
    rcases denE T Φ a ε with _ | ⟨d, ε1⟩
    · rfl
    · simp only [Option.bind_some]
      rcases denE T Φ b ε1 with _ | ⟨e, ε2⟩
      · rfl
      · simp only [Option.bind_some]
        rcases lateC a d ε2 with _ | d'
        · rfl
        · cases d' with
          | lst i =>
            cases e with
            | lst j => rfl
            | _ => rfl
          | _ => cases e <;> rfl
  | .enum a, ε, κ => by
    simp only [dI, denI, dE_eq a]
    rcases denE T Φ a ε with _ | ⟨d, ε1⟩
    · rfl
    · cases d <;> rfl
theorem dT_eq : ∀ (c : C) (ε : Ev) (κ : Bool → Ev → Option A), dT T Φ c ε κ = (denT T Φ c ε).bind fun p => κ p.1 p.2
  | .and_ a b, ε, κ => by
    simp only [dT, denT, dT_eq a, dT_eq b]
    rcases denT T Φ a ε with _ | ⟨c, ε1⟩
    · rfl
    · cases c <;> rfl
  | .or_ a b, ε, κ => by
    simp only [dT, denT, dT_eq a, dT_eq b]
    rcases denT T Φ a ε with _ | ⟨c, ε1⟩
    · rfl
    · cases c <;> rfl
  | .p1 p a, ε, κ => by
    by_cases hp : p = .not_
    · subst hp
      simp only [dT, denT, dT_eq a]
      rcases denT T Φ a ε with _ | ⟨c, ε1⟩ <;> rfl
    · have e1 : dT T Φ (.p1 p a) ε κ = dE T Φ a ε fun d ε1 => k1 p d fun r => kT r fun c => κ c ε1 := by
        cases p <;> first | exact absurd rfl hp | rfl
      have e2 : denT T Φ (.p1 p a) ε = (denE T Φ a ε).bind fun (d, ε1) => (op1 p d).bind fun r => (truth r).map fun c => (c, ε1) := by
        cases p <;> first | exact absurd rfl hp | rfl
      rw [e1, e2, dE_eq a]
      rcases denE T Φ a ε with _ | ⟨d, ε1⟩
      · rfl
      · simp only [Option.bind_some, k1]
        rcases op1 p d with _ | r
        · rfl
        · simp only [Option.bind_some, kT]; cases truth r <;> rfl
  | .p2 p a b, ε, κ => by
    simp only [dT, denT, dE_eq a, dE_eq b, k2, dL_eq, kT]
    rcases denE T Φ a ε with _ | ⟨d, ε1⟩
    · rfl
    · simp only [Option.bind_some]
      rcases denE T Φ b ε1 with _ | ⟨e, ε2⟩
      · rfl
      · simp only [Option.bind_some]
        rcases lateC a d ε2 with _ | d'
        · rfl
        · simp only [Option.bind_some]
          rcases op2 p d' e with _ | r
          · rfl
          · simp only [Option.bind_some]; cases truth r <;> rfl
  | .bl b, ε, κ => rfl
  | .var i, ε, κ => by
    simp only [dT, denT, kO, kT]
    rcases look ε i with _ | d
    · rfl
    · simp only [Option.bind_some]; cases truth d <;> rfl
  | .chain p q a b c, ε, κ => by
    simp only [dT, denT, dE_eq a, dE_eq b, dE_eq c, k2, dL_eq, kT]
    rcases denE T Φ a ε with _ | ⟨d, ε1⟩
    · rfl
    · simp only [Option.bind_some]
      rcases denE T Φ b ε1 with _ | ⟨e, ε2⟩
      · rfl
      · simp only [Option.bind_some]
        rcases lateC a d ε2 with _ | d'
        · rfl
        · simp only [Option.bind_some]
          rcases op2 p d' e with _ | x
          · rfl
          · cases x with
            | bl y =>
              cases y with
              | false => rfl
              | true =>
                show (denE T Φ c ε2).bind _ = ((denE T Φ c ε2).bind _).bind _
                rcases denE T Φ c ε2 with _ | ⟨f, ε3⟩
                · rfl
                · simp only [Option.bind_some]
                  rcases op2 q e f with _ | r
                  · rfl
                  · simp only [Option.bind_some]; cases truth r <;> rfl
            | _ => rfl
  | .call f as, ε, κ => by
    simp only [dT, denT, dEs_eq as, kO, dLs_eq, dOut, kM, kT]
    rcases denEs T Φ as ε with _ | ⟨d, ε1⟩
    · rfl
    · simp only [Option.bind_some]
      rcases lates as d ε1 with _ | d'
      · rfl
      · simp only [Option.bind_some]
        rcases T f with _ | df
        · rfl
        · simp only [Option.bind_some]
          split
          · rfl
          · rcases Φ f d' with _ | ⟨r, os⟩
            · rfl
            · simp only [Option.bind_some]
              rcases outsE df.ms as os ε1 with _ | ε2
              · rfl
              · simp only [Option.bind_some]; cases truth r <;> rfl
  | .non, ε, κ => rfl
  | .orv _ _, ε, κ => rfl
  | .int _, ε, κ => rfl
  | .str _, ε, κ => rfl
  | .gint _ _, ε, κ => rfl
  | .slc _ _ _, ε, κ => rfl
  | .ife _ _ _, ε, κ => rfl
  | .lst _, ε, κ => rfl
  | .tup _, ε, κ => rfl
  | .comp _ _ _ _ _, ε, κ => rfl
end
mutual
theorem dS_eq : ∀ (s : S) (ε : Ev) (κ : R → Option A), dS T Φ s ε κ = (denS T Φ s ε).bind κ
  | .set o i e, ε, κ => by
    simp only [dS, denS, dE_eq e, kE]
    rcases denE T Φ e ε with _ | ⟨d, ε1⟩ <;> rfl
  | .tgt g e, ε, κ => by
    simp only [dS, denS, dE_eq e, dTg]
    rcases denE T Φ e ε with _ | ⟨d, ε1⟩
    · rfl
    · simp only [Option.bind_some]; cases tgD g d ε1 <;> rfl
  | .par i j a b, ε, κ => by
    simp only [dS, denS, dE_eq a, dE_eq b, kE]
    rcases denE T Φ a ε with _ | ⟨d, ε1⟩
    · rfl
    · simp only [Option.bind_some]
      rcases denE T Φ b ε1 with _ | ⟨e, ε2⟩ <;> rfl
  | .sub i ix e, ε, κ => by
    simp only [dS, denS, dE_eq e, dE_eq ix, kE, kO]
    rcases h0 : look ε i with _ | x0
    · rw [if_pos (show lstAt ε i = false by simp only [lstAt, h0])]; rfl
    · cases x0 with
      | lst x0 =>
        rw [if_neg (show ¬ lstAt ε i = false by simp only [lstAt, h0]; exact fun z => Bool.noConfusion z)]
        simp only [Option.bind_some, kL]
        rcases denE T Φ e ε with _ | ⟨d, ε1⟩
        · rfl
        · simp only [Option.bind_some]
          rcases denE T Φ ix ε1 with _ | ⟨k, ε2⟩
          · rfl
          · simp only [Option.bind_some]
            rcases look ε2 i with _ | x
            · rfl
            · cases x with
              | lst xs =>
                cases k with
                | int k => simp only [Option.bind_some, kI]; cases ixN xs.length k <;> rfl
                | _ => rfl
              | _ => cases k <;> rfl
      | _ => rw [if_pos (show lstAt ε i = false by simp only [lstAt, h0])]; rfl
  | .dput i ix e, ε, κ => by
    simp only [dS, denS, dE_eq e, dE_eq ix, kE, kO]
    rcases h0 : look ε i with _ | x0
    · rw [if_pos (show dctAt ε i = false by simp only [dctAt, h0])]; rfl
    · cases x0 with
      | dct x0 =>
        rw [if_neg (show ¬ dctAt ε i = false by simp only [dctAt, h0]; exact fun z => Bool.noConfusion z)]
        simp only [Option.bind_some, kDc]
        rcases denE T Φ e ε with _ | ⟨d, ε1⟩
        · rfl
        · simp only [Option.bind_some]
          rcases denE T Φ ix ε1 with _ | ⟨k, ε2⟩
          · rfl
          · simp only [Option.bind_some]
            rcases look ε2 i with _ | x
            · rfl
            · cases x with
              | dct xs =>
                cases k with
                | int k => simp only [Option.bind_some, kI, kif, decide_eq_true_eq]; split <;> rfl
                | _ => rfl
              | _ => cases k <;> rfl
      | _ => rw [if_pos (show dctAt ε i = false by simp only [dctAt, h0])]; rfl
  | .app i e, ε, κ => by
    simp only [dS, denS, dE_eq e, kE, kO]
    rcases h0 : look ε i with _ | x0
    · rw [if_pos (show lstAt ε i = false by simp only [lstAt, h0])]; rfl
    · cases x0 with
      | lst x0 =>
        rw [if_neg (show ¬ lstAt ε i = false by simp only [lstAt, h0]; exact fun z => Bool.noConfusion z)]
        simp only [Option.bind_some, kL]
        rcases denE T Φ e ε with _ | ⟨d, ε1⟩
        · rfl
        · simp only [Option.bind_some]
          rcases look ε1 i with _ | x
          · rfl
          · cases x with
            | lst xs => simp only [Option.bind_some, kif, decide_eq_true_eq]; split <;> rfl
            | _ => rfl
      | _ => rw [if_pos (show lstAt ε i = false by simp only [lstAt, h0])]; rfl
  | .ext i e, ε, κ => by
    simp only [dS, denS, dE_eq e, kE, kO]
    rcases h0 : look ε i with _ | x0
    · rw [if_pos (show lstAt ε i = false by simp only [lstAt, h0])]; rfl
    · cases x0 with
      | lst x0 =>
        rw [if_neg (show ¬ lstAt ε i = false by simp only [lstAt, h0]; exact fun z => Bool.noConfusion z)]
        simp only [Option.bind_some, kL]
        rcases denE T Φ e ε with _ | ⟨d, ε1⟩
        · rfl
        · simp only [Option.bind_some]
          rcases look ε1 i with _ | x
          · rfl
          · cases x with
            | lst xs =>
              cases d with
              | lst ys => simp only [Option.bind_some, kif, decide_eq_true_eq]; split <;> rfl
              | _ => rfl
            | _ => cases d <;> rfl
      | _ => rw [if_pos (show lstAt ε i = false by simp only [lstAt, h0])]; rfl
  | .clr i, ε, κ => by
    simp only [dS, denS, kE, kO]
    rcases look ε i with _ | x0
    · rfl
    · cases x0 <;> rfl
  | .appT a e, ε, κ => by
    simp only [dS, denS, dE_eq e, dE_eq a]
    rcases denE T Φ a ε with _ | ⟨d, ε1⟩
    · rfl
    · simp only [Option.bind_some]
      rcases denE T Φ e ε1 with _ | ⟨x, ε2⟩
      · rfl
      · cases d with
        | lst xs => simp only [Option.bind_some, kL, kif, decide_eq_true_eq]; split <;> first | rfl | contradiction
        | _ => rfl
  | .aug p i e, ε, κ => by
    simp only [dS, denS, dE_eq e, kO, kA, kE]
    rcases look ε i with _ | x0
    · rfl
    · simp only [Option.bind_some]
      rcases denE T Φ e ε with _ | ⟨d, ε1⟩
      · rfl
      · simp only [Option.bind_some]; cases opA p x0 d <;> rfl
  | .ex e, ε, κ => by
    simp only [dS, denS, dE_eq e]
    rcases denE T Φ e ε with _ | ⟨d, ε1⟩ <;> rfl
  | .ret e, ε, κ => by
    simp only [dS, denS, dE_eq e]
    rcases denE T Φ e ε with _ | ⟨d, ε1⟩ <;> rfl
  | .retO i, ε, κ => by
    simp only [dS, denS, kO, kif]
    rcases look ε i with _ | x0
    · rfl
    · simp only [Option.bind_some]; split <;> rfl
  | .retN, ε, κ => rfl
  | .ifs t a b, ε, κ => by
    simp only [dS, denS, dT_eq t, dSs_eq a, dSs_eq b]
    rcases denT T Φ t ε with _ | ⟨c, ε1⟩
    · rfl
    · cases c <;> rfl
  | .fors J g it b, ε, κ => by
    simp only [dS, denS, dI_eq it]
    rcases denI T Φ it ε with _ | ⟨ds, ε1⟩
    · rfl
    · simp only [Option.bind_some]
      exact forC_eq J _ _ (fun d ε κ => by simp only [dTg, dSs_eq b]; cases tgD g d ε <;> rfl) ds ε1 κ
  | .whil J n t b, ε, κ => by
    simp only [dS, denS]
    exact whilC_eq J _ _ _ _ (fun ε κ => dT_eq t ε κ) (fun ε κ => dSs_eq b ε κ) n ε κ
  | .brk, ε, κ => rfl
  | .cnt, ε, κ => rfl
  | .pas, ε, κ => rfl
  | .dead, ε, κ => rfl
  | .dem _ s, ε, κ => by simp only [dS, denS, dS_eq s]
  | .kil J s, ε, κ => by simp only [dS, denS, dS_eq s, kE]
theorem dSs_eq : ∀ (s : Ss) (ε : Ev) (κ : R → Option A), dSs T Φ s ε κ = (denSs T Φ s ε).bind κ
  | .nil, ε, κ => rfl
  | .cons s r, ε, κ => by
    simp only [dSs, denSs, dS_eq s]
    rcases denS T Φ s ε with _ | x
    · rfl
    · cases x <;> first | rfl | exact dSs_eq r _ κ
end
/-- the end of a def -/
def fin (ms : List Md) : R → Option (D × List D)
  | .rt d ε => (outsOf ε ms 0).map fun os => (d, os)
  | .nx ε => (outsOf ε ms 0).map fun os => (.non, os)
  | _ => none
theorem Ga_run {k f : Nat} {df : Df} {ds : List D} (hT : T f = some df) (hl : ds.length = df.ms.length) (hn : df.nw = false := by rfl) : Ga T (k + 1) f ds = dSs T (Ga T k) df.body (ds.map some ++ List.replicate (df.N.length - ds.length) none) (fin df.ms) := by
  show (T f).bind _ = _
  rw [hT, dSs_eq]
  simp only [Option.bind_some, runN, hn, Bool.false_eq_true, if_false, runD, if_pos hl]
  cases denSs T (Ga T k) df.body (ds.map some ++ List.replicate (df.N.length - ds.length) none) with
  | none => rfl
  | some r => cases r <;> rfl
/-- the same def, its answer looked at -/
theorem ga_nw {k f g : Nat} {df dg : Df} {ds : List D} {r : D} {os : List D} (hf : T f = some df) (hg : T g = some dg) (e : dg.body = df.body ∧ dg.N = df.N ∧ dg.ms = df.ms) (n1 : df.nw = false) (n2 : dg.nw = true) (no : noO dg.ms = true)
    (h : Ga T (k + 1) f ds = some (r, os)) (fr : freshD r ds = true) : Ga T (k + 1) g ds = some (r, os) := by
  have h' : (T f).bind (fun df => runN T (Ga T k) df ds) = some (r, os) := h
  rw [hf, Option.bind_some, runN, n1, if_neg (by simp)] at h'
  show (T g).bind (fun df => runN T (Ga T k) df ds) = some (r, os)
  rw [hg, Option.bind_some, runN, n2, if_pos rfl]
  have : runD T (Ga T k) dg ds = runD T (Ga T k) df ds := by
    unfold runD
    rw [e.1, e.2.1, e.2.2]
  rw [this, h', Option.bind_some]
  dsimp only
  rw [fr, no]; rfl
end
end VS

set_option maxHeartbeats 1000000
/-! W1: rules for working out, one a construct. -/
namespace VS
open PySem L2

def setN (ε : Ev) (n : Nat) (x : Option D) : Ev := ε.set n x
def atE (ε : Ev) (v : Nat) : Option D := match ε[v]? with | some x => x | none => none
def putAll (ε : Ev) : List (Nat × D) → Ev
  | [] => ε
  | (i, d) :: r => putAll (putI ε i d) r
def inP (d : D) (xs : List D) : Option Bool := if okEq d && okEq (.lst xs) then some (xs.any fun z => PyData.eqv (toP z) (toP d)) else none
def oCons : Option D → Option (List D) → Option (List D)
  | some d, some r => some (d :: r)
  | _, _ => none
/-- a repr's text -/
def rp (d : D) : Str := (toP d).shown
def nth {α : Type} [Inhabited α] (xs : List α) (i : Int) : α := xs.getD i.toNat default
theorem atI_nat {α : Type} {xs : List α} {n : Nat} {x : α} (h : xs[n]? = some x) : atI xs (n : Int) = some x := by
  have hl := (List.getElem?_eq_some_iff.mp h).1
  have : ixN xs.length (n : Int) = some n := by simp [ixN, hl]
  simp only [atI, this, Option.bind_some, h]
theorem atI_map_nth {α β : Type} [Inhabited α] {f : α → β} {xs : List α} {i : Int} (h0 : 0 ≤ i) (h1 : i < xs.length) : atI (xs.map f) i = some (f (nth xs i)) := by
  have e : i = (i.toNat : Int) := by omega
  rw [e]
  refine atI_nat ?_
  have : i.toNat < xs.length := by omega
  have h : xs[i.toNat]? = some xs[i.toNat] := List.getElem?_eq_getElem this
  show (xs.map f)[i.toNat]? = some (f (xs.getD i.toNat default))
  rw [List.getElem?_map, h, List.getD, h]; rfl
theorem atI_last {α : Type} {xs : List α} {x : α} : atI (xs ++ [x]) (-1) = some x := by
  have h : -((xs ++ [x]).length : Int) ≤ -1 := by simp; omega
  have : ixN (xs ++ [x]).length (-1) = some xs.length := by
    simp only [ixN]
    rw [if_neg (by decide), if_pos h]
    simp; omega
  simp only [atI, this, Option.bind_some]
  simp
theorem nth_mem {α : Type} [Inhabited α] {xs : List α} {i : Int} (h0 : 0 ≤ i) (h1 : i < xs.length) : nth xs i ∈ xs := by
  have : i.toNat < xs.length := by omega
  simp [nth, List.getD, this]
theorem cutD_map {α β : Type} {f : α → β} {xs : List α} {lo hi : Option Int} : cutD (xs.map f) lo hi = (cutD xs lo hi).map f := by
  simp [cutD, List.map_drop, List.map_take]
theorem cut_mem {α : Type} {xs : List α} {lo hi : Option Int} {x : α} (h : x ∈ cutD xs lo hi) : x ∈ xs := List.mem_of_mem_drop (List.mem_of_mem_take h)
theorem cut_len {α : Type} {xs : List α} {lo hi : Int} (h0 : 0 ≤ lo) (h1 : lo ≤ hi) (h2 : hi ≤ xs.length) : (cutD xs (some lo) (some hi)).length = (hi - lo).toNat := by
  have a : HT.sIx xs.length 0 (some lo) = lo.toNat := by simp only [HT.sIx]; split <;> omega
  have b : HT.sIx xs.length xs.length (some hi) = hi.toNat := by simp only [HT.sIx]; split <;> omega
  simp only [cutD, a, b, List.length_take, List.length_drop]
  omega
theorem cut_len0 {α : Type} {xs : List α} {hi : Int} (h0 : 0 ≤ hi) (h2 : hi ≤ xs.length) : (cutD xs none (some hi)).length = hi.toNat := by
  have a : HT.sIx xs.length 0 none = 0 := rfl
  have b : HT.sIx xs.length xs.length (some hi) = hi.toNat := by simp only [HT.sIx]; split <;> omega
  simp only [cutD, a, b, List.length_take, List.length_drop]
  omega
theorem allB_map {β : Type} {p : β → Bool} : ∀ {xs : List β}, allB (xs.map fun x => D.bl (p x)) = some (xs.map p)
  | [] => rfl
  | x :: xs => by simp only [List.map_cons, allB, allB_map]; rfl
theorem allI_map : ∀ {xs : List Int}, allI (xs.map D.int) = some xs
  | [] => rfl
  | x :: xs => by simp only [List.map_cons, allI, allI_map]; rfl
theorem rngD_from : ∀ (lo : Int) (n : Nat), rngD lo n = (List.range n).map fun i : Nat => D.int (lo + (i : Int))
  | lo, 0 => rfl
  | lo, n + 1 => by
    rw [List.range_succ_eq_map, List.map_cons, List.map_map]
    show D.int lo :: rngD (lo + 1) n = _
    rw [rngD_from (lo + 1) n]
    congr 1
    · congr 1; omega
    · refine List.map_congr_left fun i _ => ?_
      show D.int _ = D.int _
      congr 1
      simp
      omega
theorem rngD_range (n : Nat) : rngD 0 n = (List.range n).map fun i : Nat => D.int (i : Int) := by
  rw [rngD_from]; exact List.map_congr_left fun i _ => by rw [Int.zero_add]
theorem zipD_map {α β : Type} {f : α → D} {g : β → D} : ∀ (xs : List α) (ys : List β), zipD (xs.map f) (ys.map g) = (xs.zip ys).map fun p => D.tup [f p.1, g p.2]
  | [], _ => rfl
  | _ :: _, [] => rfl
  | x :: xs, y :: ys => by simp only [List.map_cons, zipD, List.zip_cons_cons, zipD_map xs ys]
theorem enumD_map {α : Type} {f : α → D} : ∀ (xs : List α) (k : Nat), enumD k (xs.map f) = (xs.zipIdx k).map fun p => D.tup [.int (p.2 : Int), f p.1]
  | [], _ => rfl
  | x :: xs, k => by simp only [List.map_cons, enumD, List.zipIdx_cons, enumD_map xs (k + 1)]
theorem eqP_int {i j : Int} : eqP (.int i) (.int j) = some (decide (i = j)) := by
  show some (i == j) = _
  rfl
theorem eqP_bl {i j : Bool} : eqP (.bl i) (.bl j) = some (decide (i = j)) := by
  cases i <;> cases j <;> rfl
namespace Z
def h1 {A : Type} (p : P1) (d : D) (ε : Ev) (κ : D → Ev → Option A) : Option A := (op1 p d).bind fun r => κ r ε
def h2 {A : Type} (p : P2) (d e : D) (ε : Ev) (κ : D → Ev → Option A) : Option A := (op2 p d e).bind fun r => κ r ε
def hT {A : Type} (d : D) (ε : Ev) (κ : Bool → Ev → Option A) : Option A := (truth d).bind fun c => κ c ε
def hLim {A : Type} (c : Bool) (d : D) (ε : Ev) (κ : D → Ev → Option A) : Option A := if c = true then κ d ε else none
def hE {A : Type} (ε : Ev) (κ : R → Option A) : Option A := κ (.nx ε)
def hP {A : Type} (ε : Ev) (κ : Ev → Option A) : Option A := κ ε
def hV {A : Type} (d : D) (ε : Ev) (κ : D → Ev → Option A) : Option A := κ d ε
def hAnd {A : Type} (c : Bool) (T : Tb) (Φ : Ph) (b : C) (ε : Ev) (κ : D → Ev → Option A) : Option A := if c = true then dE T Φ b ε κ else κ (.bl false) ε
def hOr {A : Type} (c : Bool) (T : Tb) (Φ : Ph) (b : C) (ε : Ev) (κ : D → Ev → Option A) : Option A := if c = true then κ (.bl true) ε else dE T Φ b ε κ
def hOrv {A : Type} (c : Bool) (T : Tb) (Φ : Ph) (d : D) (b : C) (ε : Ev) (κ : D → Ev → Option A) : Option A := if c = true then κ d ε else dE T Φ b ε κ
def hIfe {A : Type} (c : Bool) (T : Tb) (Φ : Ph) (a b : C) (ε : Ev) (κ : D → Ev → Option A) : Option A := if c = true then dE T Φ a ε κ else dE T Φ b ε κ
def hTand {A : Type} (c : Bool) (T : Tb) (Φ : Ph) (b : C) (ε : Ev) (κ : Bool → Ev → Option A) : Option A := if c = true then dT T Φ b ε κ else κ false ε
def hTor {A : Type} (c : Bool) (T : Tb) (Φ : Ph) (b : C) (ε : Ev) (κ : Bool → Ev → Option A) : Option A := if c = true then κ true ε else dT T Φ b ε κ
def hIfs {A : Type} (c : Bool) (T : Tb) (Φ : Ph) (a b : Ss) (ε : Ev) (κ : R → Option A) : Option A := if c = true then dSs T Φ a ε κ else dSs T Φ b ε κ
def hCw {A : Type} (c : Bool) (T : Tb) (Φ : Ph) (e : C) (ε : Ev) (ky : D → Ev → Option A) (kn : Ev → Option A) : Option A := if c = true then dE T Φ e ε ky else kn ε
def hRng {A : Type} (c : Bool) (lo n : Int) (ε : Ev) (κ : List D → Ev → Option A) : Option A := if c = true then κ (rngD lo n.toNat) ε else none
def hSq {A : Type} (d : D) (ε : Ev) (κ : List D → Ev → Option A) : Option A := (seqOf d).bind fun ds => κ ds ε
def hC {A : Type} (x : Option (D × List D)) (ms : List Md) (as : Cs) (ε : Ev) (κ : D → Ev → Option A) : Option A := x.bind fun r => (outsE ms as r.2 ε).bind fun ε2 => κ r.1 ε2
def hM {A : Type} (ms : List Md) (ds : List D) (ms0 : List Md) (x : Option (D × List D)) (as : Cs) (ε : Ev) (κ : D → Ev → Option A) : Option A := if oMut ms ds = false then none else hC x ms0 as ε κ
def hOut {A : Type} (ms : List Md) (as : Cs) (os : List D) (ε : Ev) (r : D) (κ : D → Ev → Option A) : Option A := (outsE ms as os ε).bind fun ε2 => κ r ε2
def hA {A : Type} (p : P2) (x d : D) (i : Nat) (ε : Ev) (κ : R → Option A) : Option A := (opA p x d).bind fun r => hE (putI ε i r) κ
def hWhl {A : Type} (c : Bool) (f : Ev → (R → Option A) → Option A) (J : List Nat) (K : Ev → Option A) (ε : Ev) (κ : R → Option A) : Option A := if c = true then f ε (kF J K κ) else κ (.nx (wipeE ε J))
def hDp {A : Type} (c : Bool) (i : Nat) (k : Int) (d : D) (xs : List (Key × D)) (ε : Ev) (κ : R → Option A) : Option A := if c = true then hE (putI ε i (.dct (putKD xs (.inl k) d))) κ else none
def hMk {A : Type} (x : Option (List (Key × D))) (ε : Ev) (κ : D → Ev → Option A) : Option A := x.bind fun r => κ (.dct r) ε
def hZip {A : Type} (d e : D) (ε : Ev) (κ : List D → Ev → Option A) : Option A := match d, e with
  | .lst xs, .lst ys => κ (zipD xs ys) ε
  | _, _ => none
def KR {A : Type} (ε : Ev) (κ : D → Ev → Option A) : D → Option A := fun d => κ d ε
def K1 {A : Type} (p : P1) (κ : D → Ev → Option A) : D → Ev → Option A := fun d ε => h1 p d ε κ
def K2c {A : Type} (p : P2) (e : D) (ε : Ev) (κ : D → Ev → Option A) : D → Option A := fun d => h2 p d e ε κ
def K2b {A : Type} (p : P2) (a : C) (d : D) (κ : D → Ev → Option A) : D → Ev → Option A := fun e ε => dL a d ε (K2c p e ε κ)
def K2a {A : Type} (T : Tb) (Φ : Ph) (p : P2) (a b : C) (κ : D → Ev → Option A) : D → Ev → Option A := fun d ε => dE T Φ b ε (K2b p a d κ)
def Ksl4 {A : Type} (l h : Option Int) (ε : Ev) (κ : D → Ev → Option A) : D → Option A := fun d => kO (slcD d l h) (KR ε κ)
def Ksl3 {A : Type} (a : C) (d : D) (l : Option Int) (κ : D → Ev → Option A) : Option Int → Ev → Option A := fun h ε => dL a d ε (Ksl4 l h ε κ)
def Ksl2 {A : Type} (T : Tb) (Φ : Ph) (a : C) (d : D) (hi : CO) (κ : D → Ev → Option A) : Option Int → Ev → Option A := fun l ε => dO T Φ hi ε (Ksl3 a d l κ)
def Ksl1 {A : Type} (T : Tb) (Φ : Ph) (a : C) (lo hi : CO) (κ : D → Ev → Option A) : D → Ev → Option A := fun d ε => dO T Φ lo ε (Ksl2 T Φ a d hi κ)
def Kand {A : Type} (T : Tb) (Φ : Ph) (b : C) (κ : D → Ev → Option A) : D → Ev → Option A := fun d ε => kB d fun c => hAnd c T Φ b ε κ
def Kor {A : Type} (T : Tb) (Φ : Ph) (b : C) (κ : D → Ev → Option A) : D → Ev → Option A := fun d ε => kB d fun c => hOr c T Φ b ε κ
def Korv1 {A : Type} (T : Tb) (Φ : Ph) (d : D) (b : C) (ε : Ev) (κ : D → Ev → Option A) : Bool → Option A := fun c => hOrv c T Φ d b ε κ
def Korv {A : Type} (T : Tb) (Φ : Ph) (b : C) (κ : D → Ev → Option A) : D → Ev → Option A := fun d ε => kO (truth d) (Korv1 T Φ d b ε κ)
def Kife {A : Type} (T : Tb) (Φ : Ph) (a b : C) (κ : D → Ev → Option A) : Bool → Ev → Option A := fun c ε => hIfe c T Φ a b ε κ
def Kch4 {A : Type} (q : P2) (e : D) (κ : D → Ev → Option A) : D → Ev → Option A := fun f ε => h2 q e f ε κ
def Kch3 {A : Type} (T : Tb) (Φ : Ph) (q : P2) (c : C) (e : D) (κ : D → Ev → Option A) : D → Ev → Option A := fun x ε => kB x fun y => if y = true then dE T Φ c ε (Kch4 q e κ) else κ (.bl false) ε
def Kch2 {A : Type} (T : Tb) (Φ : Ph) (p q : P2) (c : C) (e : D) (ε : Ev) (κ : D → Ev → Option A) : D → Option A := fun d => h2 p d e ε (Kch3 T Φ q c e κ)
def Kch1 {A : Type} (T : Tb) (Φ : Ph) (p q : P2) (a c : C) (d : D) (κ : D → Ev → Option A) : D → Ev → Option A := fun e ε => dL a d ε (Kch2 T Φ p q c e ε κ)
def Kch0 {A : Type} (T : Tb) (Φ : Ph) (p q : P2) (a b c : C) (κ : D → Ev → Option A) : D → Ev → Option A := fun d ε => dE T Φ b ε (Kch1 T Φ p q a c d κ)
def Klst {A : Type} (κ : D → Ev → Option A) : List D → Ev → Option A := fun ds ε => hLim (decide (ds.length ≤ lim)) (.lst ds) ε κ
def Ktup {A : Type} (κ : D → Ev → Option A) : List D → Ev → Option A := fun ds ε => hLim (decide (ds.length ≤ lim)) (.tup ds) ε κ
def Kc3 {A : Type} (Φ : Ph) (f : Nat) (as : Cs) (ds : List D) (ε : Ev) (κ : D → Ev → Option A) : Df → Option A := fun df => hM df.ms ds df.ms (Φ f ds) as ε κ
def Kc2 {A : Type} (T : Tb) (Φ : Ph) (f : Nat) (as : Cs) (ε : Ev) (κ : D → Ev → Option A) : List D → Option A := fun ds => kO (T f) (Kc3 Φ f as ds ε κ)
def Kc1 {A : Type} (T : Tb) (Φ : Ph) (f : Nat) (as : Cs) (κ : D → Ev → Option A) : List D → Ev → Option A := fun ds ε => dLs as ds ε (Kc2 T Φ f as ε κ)
def cB {A : Type} (T : Tb) (Φ : Ph) (own : List Nat) (g : Tg) (t e : C) : D → Ev → (D → Ev → Option A) → (Ev → Option A) → Option A := fun d ε2 ky kn => dTg g d (wipeE ε2 own) fun ε3 => dT T Φ t ε3 fun c ε4 => kif c (dE T Φ e ε4 ky) (kn ε4)
def KcpE {A : Type} (ε : Ev) (own : List Nat) (κ : D → Ev → Option A) : List D → Ev → Option A := fun ys ε2 => hV (.lst ys) (backE ε ε2 own) κ
def Kcp {A : Type} (T : Tb) (Φ : Ph) (own : List Nat) (g : Tg) (t e : C) (κ : D → Ev → Option A) : List D → Ev → Option A := fun ds ε => compC (cB T Φ own g t e) ds ε [] (KcpE ε own κ)
def Kes2 {A : Type} (d : D) (κ : List D → Ev → Option A) : List D → Ev → Option A := fun ds ε => κ (d :: ds) ε
def Kes1 {A : Type} (T : Tb) (Φ : Ph) (r : Cs) (κ : List D → Ev → Option A) : D → Ev → Option A := fun d ε => dEs T Φ r ε (Kes2 d κ)
def Ko {A : Type} (κ : Option Int → Ev → Option A) : D → Ev → Option A := fun d ε => kI d fun i => κ (some i) ε
def Ksq {A : Type} (κ : List D → Ev → Option A) : D → Ev → Option A := fun d ε => hSq d ε κ
def Krng1 {A : Type} (κ : List D → Ev → Option A) : D → Ev → Option A := fun d ε => kI d fun j => hRng (okR j) 0 j ε κ
def Krng2b {A : Type} (d : D) (κ : List D → Ev → Option A) : D → Ev → Option A := fun e ε => kI d fun i => kI e fun j => hRng (okR i && okR j) i (j - i) ε κ
def Krng2a {A : Type} (T : Tb) (Φ : Ph) (b : C) (κ : List D → Ev → Option A) : D → Ev → Option A := fun d ε => dE T Φ b ε (Krng2b d κ)
def Kzip2 {A : Type} (e : D) (ε : Ev) (κ : List D → Ev → Option A) : D → Option A := fun d => hZip d e ε κ
def Kzip1 {A : Type} (a : C) (d : D) (κ : List D → Ev → Option A) : D → Ev → Option A := fun e ε => dL a d ε (Kzip2 e ε κ)
def Kzip0 {A : Type} (T : Tb) (Φ : Ph) (a b : C) (κ : List D → Ev → Option A) : D → Ev → Option A := fun d ε => dE T Φ b ε (Kzip1 a d κ)
def Kenum {A : Type} (κ : List D → Ev → Option A) : D → Ev → Option A := fun d ε => kL d fun xs => κ (enumD 0 xs) ε
def KT {A : Type} (κ : Bool → Ev → Option A) : D → Ev → Option A := fun d ε => hT d ε κ
def KtAnd {A : Type} (T : Tb) (Φ : Ph) (b : C) (κ : Bool → Ev → Option A) : Bool → Ev → Option A := fun c ε => hTand c T Φ b ε κ
def KtOr {A : Type} (T : Tb) (Φ : Ph) (b : C) (κ : Bool → Ev → Option A) : Bool → Ev → Option A := fun c ε => hTor c T Φ b ε κ
def KtNot {A : Type} (κ : Bool → Ev → Option A) : Bool → Ev → Option A := fun c ε => κ (!c) ε
def Kset {A : Type} (i : Nat) (κ : R → Option A) : D → Ev → Option A := fun d ε => hE (putI ε i d) κ
def KNx {A : Type} (κ : R → Option A) : Ev → Option A := fun ε => κ (.nx ε)
def Ktgt {A : Type} (g : Tg) (κ : R → Option A) : D → Ev → Option A := fun d ε => dTg g d ε (KNx κ)
def Kpar2 {A : Type} (i j : Nat) (d : D) (κ : R → Option A) : D → Ev → Option A := fun e ε => hE (putI (putI ε i d) j e) κ
def Kpar1 {A : Type} (T : Tb) (Φ : Ph) (i j : Nat) (b : C) (κ : R → Option A) : D → Ev → Option A := fun d ε => dE T Φ b ε (Kpar2 i j d κ)
def Kdp4 {A : Type} (i : Nat) (k : Int) (d : D) (xs : List (Key × D)) (ε : Ev) (κ : R → Option A) : Bool → Option A := fun c => kif c (hE (putI ε i (.dct (putKD xs (.inl k) d))) κ) none
def Kdp3 {A : Type} (i : Nat) (ε : Ev) (d : D) (k : D) (κ : R → Option A) : D → Option A := fun x => kDc x fun xs => kI k fun k => Kdp4 i k d xs ε κ (decide (xs.length < lim))
def Kdp2 {A : Type} (i : Nat) (d : D) (κ : R → Option A) : D → Ev → Option A := fun k ε => kO (look ε i) (Kdp3 i ε d k κ)
def Kdp1 {A : Type} (T : Tb) (Φ : Ph) (i : Nat) (ix : C) (κ : R → Option A) : D → Ev → Option A := fun d ε => dE T Φ ix ε (Kdp2 i d κ)
def Kdp0 {A : Type} (T : Tb) (Φ : Ph) (i : Nat) (ix e : C) (ε : Ev) (κ : R → Option A) : D → Option A := fun x => kDc x fun _ => dE T Φ e ε (Kdp1 T Φ i ix κ)
def Ksub4 {A : Type} (i : Nat) (ε : Ev) (d : D) (xs : List D) (κ : R → Option A) : Nat → Option A := fun j => hE (putI ε i (.lst (xs.set j d))) κ
def Ksub3 {A : Type} (i : Nat) (ε : Ev) (d : D) (k : D) (κ : R → Option A) : D → Option A := fun x => kL x fun xs => kI k fun k => kO (ixN xs.length k) (Ksub4 i ε d xs κ)
def Ksub2 {A : Type} (i : Nat) (d : D) (κ : R → Option A) : D → Ev → Option A := fun k ε => kO (look ε i) (Ksub3 i ε d k κ)
def Ksub1 {A : Type} (T : Tb) (Φ : Ph) (i : Nat) (ix : C) (κ : R → Option A) : D → Ev → Option A := fun d ε => dE T Φ ix ε (Ksub2 i d κ)
def Ksub0 {A : Type} (T : Tb) (Φ : Ph) (i : Nat) (ix e : C) (ε : Ev) (κ : R → Option A) : D → Option A := fun x => kL x fun _ => dE T Φ e ε (Ksub1 T Φ i ix κ)
def hApp {A : Type} (c : Bool) (i : Nat) (xs : List D) (ε : Ev) (κ : R → Option A) : Option A := if c = true then hE (putI ε i (.lst xs)) κ else none
def Kapp2 {A : Type} (i : Nat) (ε : Ev) (d : D) (κ : R → Option A) : D → Option A := fun x => kL x fun xs => hApp (decide (xs.length < lim)) i (xs ++ [d]) ε κ
def Kapp1 {A : Type} (i : Nat) (κ : R → Option A) : D → Ev → Option A := fun d ε => kO (look ε i) (Kapp2 i ε d κ)
def Kapp0 {A : Type} (T : Tb) (Φ : Ph) (i : Nat) (e : C) (ε : Ev) (κ : R → Option A) : D → Option A := fun x => kL x fun _ => dE T Φ e ε (Kapp1 i κ)
def Kext2 {A : Type} (i : Nat) (ε : Ev) (d : D) (κ : R → Option A) : D → Option A := fun x => kL x fun xs => kL d fun ys => hApp (decide (xs.length + ys.length ≤ lim)) i (xs ++ ys) ε κ
def Kext1 {A : Type} (i : Nat) (κ : R → Option A) : D → Ev → Option A := fun d ε => kO (look ε i) (Kext2 i ε d κ)
def Kext0 {A : Type} (T : Tb) (Φ : Ph) (i : Nat) (e : C) (ε : Ev) (κ : R → Option A) : D → Option A := fun x => kL x fun _ => dE T Φ e ε (Kext1 i κ)
def Kclr {A : Type} (i : Nat) (ε : Ev) (κ : R → Option A) : D → Option A := fun x => kL x fun _ => hE (putI ε i (.lst [])) κ
def KapT1 {A : Type} (x : D) (κ : R → Option A) : D → Ev → Option A := fun d ε => kL x fun xs => kif (decide (xs.length < lim)) (κ (.nx ε)) none
def KapT0 {A : Type} (T : Tb) (Φ : Ph) (e : C) (κ : R → Option A) : D → Ev → Option A := fun x ε => dE T Φ e ε (KapT1 x κ)
def Kaug1 {A : Type} (p : P2) (i : Nat) (x : D) (κ : R → Option A) : D → Ev → Option A := fun d ε => hA p x d i ε κ
def Kaug0 {A : Type} (T : Tb) (Φ : Ph) (p : P2) (i : Nat) (e : C) (ε : Ev) (κ : R → Option A) : D → Option A := fun x => dE T Φ e ε (Kaug1 p i x κ)
def Kex {A : Type} (κ : R → Option A) : D → Ev → Option A := fun d ε => κ (.nx ε)
def Kret {A : Type} (κ : R → Option A) : D → Ev → Option A := fun d ε => κ (.rt d ε)
def KretO {A : Type} (ε : Ev) (κ : R → Option A) : D → Option A := fun d => kif (isImm d) none (κ (.rt d ε))
def Kifs {A : Type} (T : Tb) (Φ : Ph) (a b : Ss) (κ : R → Option A) : Bool → Ev → Option A := fun c ε => hIfs c T Φ a b ε κ
def fB {A : Type} (T : Tb) (Φ : Ph) (g : Tg) (b : Ss) : D → Ev → (R → Option A) → Option A := fun d ε2 κ2 => dTg g d ε2 fun ε3 => dSs T Φ b ε3 κ2
def KfB {A : Type} (T : Tb) (Φ : Ph) (b : Ss) (κ : R → Option A) : Ev → Option A := fun ε => dSs T Φ b ε κ
def Kfor {A : Type} (T : Tb) (Φ : Ph) (J : List Nat) (g : Tg) (b : Ss) (κ : R → Option A) : List D → Ev → Option A := fun ds ε => forC J (fB T Φ g b) ds ε κ
def Kkil {A : Type} (T : Tb) (Φ : Ph) (s : S) (κ : R → Option A) : Ev → Option A := fun ε => dS T Φ s ε κ
def KN {A : Type} (T : Tb) (Φ : Ph) (r : Ss) (κ : R → Option A) : R → Option A := fun x => kN (fun ε1 => dSs T Φ r ε1 κ) κ x
def KS {A : Type} (K : Ev → Option A) (κ : R → Option A) : R → Option A := fun x => kN K κ x
def Kw {A : Type} (J : List Nat) (K : Ev → Option A) : Ev → Option A := fun ε => hP (wipeE ε J) K
def Kwa {A : Type} (own : List Nat) (K : List D → Ev → Option A) (ys : List D) : D → Ev → Option A := fun y ε => K (ys ++ [y]) (wipeE ε own)
def Kwn {A : Type} (own : List Nat) (K : List D → Ev → Option A) (ys : List D) : Ev → Option A := fun ε => K ys (wipeE ε own)
def Kwd {A : Type} (own : List Nat) (K : D → Ev → Option A) : D → Ev → Option A := fun y ε => K y (wipeE ε own)
def KcW2 {A : Type} (T : Tb) (Φ : Ph) (e : C) (ky : D → Ev → Option A) (kn : Ev → Option A) : Bool → Ev → Option A := fun c ε => hCw c T Φ e ε ky kn
def KcW1 {A : Type} (T : Tb) (Φ : Ph) (t e : C) (ky : D → Ev → Option A) (kn : Ev → Option A) : Ev → Option A := fun ε => dT T Φ t ε (KcW2 T Φ e ky kn)
def cW {A : Type} (T : Tb) (Φ : Ph) (g : Tg) (t e : C) : D → Ev → (D → Ev → Option A) → (Ev → Option A) → Option A := fun d ε ky kn => dTg g d ε (KcW1 T Φ t e ky kn)
def KcB {A : Type} (T : Tb) (Φ : Ph) (g : Tg) (t e : C) (d : D) (ky : D → Ev → Option A) (kn : Ev → Option A) : Ev → Option A := fun ε => cW T Φ g t e d ε ky kn
def KWhl {A : Type} (f : Ev → (R → Option A) → Option A) (J : List Nat) (K : Ev → Option A) (κ : R → Option A) : Bool → Ev → Option A := fun c ε => hWhl c f J K ε κ
def hCp {A : Type} (c : Bool) (f : D → Ev → (D → Ev → Option A) → (Ev → Option A) → Option A) (ds : List D) (acc : List D) (ε : Ev) (κ : List D → Ev → Option A) : Option A := if c = true then compC f ds ε acc κ else none
def KcpY {A : Type} (f : D → Ev → (D → Ev → Option A) → (Ev → Option A) → Option A) (ds acc : List D) (κ : List D → Ev → Option A) : D → Ev → Option A := fun y ε => hCp (decide (acc.length < lim)) f ds (acc ++ [y]) ε κ
def KcpN {A : Type} (f : D → Ev → (D → Ev → Option A) → (Ev → Option A) → Option A) (ds acc : List D) (κ : List D → Ev → Option A) : Ev → Option A := fun ε => compC f ds ε acc κ
def Kls2 {A : Type} (d : D) (κ : List D → Option A) : List D → Option A := fun ds => κ (d :: ds)
def Kls1 {A : Type} (r : Cs) (ds : List D) (ε : Ev) (κ : List D → Option A) : D → Option A := fun d => dLs r ds ε (Kls2 d κ)
def Ktg1 {A : Type} (h : Tg) (y : D) (κ : Ev → Option A) : Ev → Option A := fun ε => dTg h y ε κ
def Ktg2 {A : Type} (h l : Tg) (y z : D) (κ : Ev → Option A) : Ev → Option A := fun ε => dTg h y ε (Ktg1 l z κ)
def Ktg3 {A : Type} (h l q : Tg) (y z w : D) (κ : Ev → Option A) : Ev → Option A := fun ε => dTg h y ε (Ktg2 l q z w κ)
def Ktg4 {A : Type} (h l q u : Tg) (y z w v : D) (κ : Ev → Option A) : Ev → Option A := fun ε => dTg h y ε (Ktg3 l q u z w v κ)
def KB {A : Type} (ε : Ev) (κ : D → Ev → Option A) : Bool → Option A := fun b => κ (.bl b) ε
def KnB {A : Type} (ε : Ev) (κ : D → Ev → Option A) : Bool → Option A := fun b => κ (.bl (!b)) ε
def KallC {A : Type} (b : Bool) (κ : D → Ev → Option A) : D → Ev → Option A := fun r ε => kB r fun c => κ (.bl (b && c)) ε
def KanyC {A : Type} (b : Bool) (κ : D → Ev → Option A) : D → Ev → Option A := fun r ε => kB r fun c => κ (.bl (b || c)) ε
theorem e_var {A : Type} {T : Tb} {Φ : Ph} {i : Nat} {ε : Ev} {κ : D → Ev → Option A}: dE T Φ (.var i) ε κ = kO (look ε i) (KR ε κ) := rfl
theorem KR_eq {A : Type} {ε : Ev} {κ : D → Ev → Option A} {d : D}: KR ε κ d = κ d ε := rfl
theorem e_non {A : Type} {T : Tb} {Φ : Ph} {ε : Ev} {κ : D → Ev → Option A}: dE T Φ .non ε κ = κ .non ε := rfl
theorem e_bl {A : Type} {T : Tb} {Φ : Ph} {b : Bool} {ε : Ev} {κ : D → Ev → Option A}: dE T Φ (.bl b) ε κ = κ (.bl b) ε := rfl
theorem e_int {A : Type} {T : Tb} {Φ : Ph} {b : Int} {ε : Ev} {κ : D → Ev → Option A}: dE T Φ (.int b) ε κ = κ (.int b) ε := rfl
theorem e_str {A : Type} {T : Tb} {Φ : Ph} {b : Str} {ε : Ev} {κ : D → Ev → Option A}: dE T Φ (.str b) ε κ = κ (.str b) ε := rfl
theorem e_gint {A : Type} {T : Tb} {Φ : Ph} {x : Str} {b : Int} {ε : Ev} {κ : D → Ev → Option A}: dE T Φ (.gint x b) ε κ = κ (.int b) ε := rfl
theorem K1_eq {A : Type} {p : P1} {κ : D → Ev → Option A} {d : D} {ε : Ev}: K1 p κ d ε = h1 p d ε κ := rfl
theorem e_p1 {A : Type} {T : Tb} {Φ : Ph} {p : P1} {a : C} {ε : Ev} {κ : D → Ev → Option A}: dE T Φ (.p1 p a) ε κ = dE T Φ a ε (K1 p κ) := rfl
theorem K2c_eq {A : Type} {p : P2} {e : D} {ε : Ev} {κ : D → Ev → Option A} {d : D}: K2c p e ε κ d = h2 p d e ε κ := rfl
theorem K2b_eq {A : Type} {p : P2} {a : C} {d : D} {κ : D → Ev → Option A} {e : D} {ε : Ev}: K2b p a d κ e ε = dL a d ε (K2c p e ε κ) := rfl
theorem K2a_eq {A : Type} {T : Tb} {Φ : Ph} {p : P2} {a b : C} {κ : D → Ev → Option A} {d : D} {ε : Ev}: K2a T Φ p a b κ d ε = dE T Φ b ε (K2b p a d κ) := rfl
theorem e_p2 {A : Type} {T : Tb} {Φ : Ph} {p : P2} {a b : C} {ε : Ev} {κ : D → Ev → Option A}: dE T Φ (.p2 p a b) ε κ = dE T Φ a ε (K2a T Φ p a b κ) := rfl
theorem Ksl4_eq {A : Type} {l h : Option Int} {ε : Ev} {κ : D → Ev → Option A} {d : D}: Ksl4 l h ε κ d = kO (slcD d l h) (KR ε κ) := rfl
theorem Ksl3_eq {A : Type} {a : C} {d : D} {l : Option Int} {κ : D → Ev → Option A} {h : Option Int} {ε : Ev}: Ksl3 a d l κ h ε = dL a d ε (Ksl4 l h ε κ) := rfl
theorem Ksl2_eq {A : Type} {T : Tb} {Φ : Ph} {a : C} {d : D} {hi : CO} {κ : D → Ev → Option A} {l : Option Int} {ε : Ev}: Ksl2 T Φ a d hi κ l ε = dO T Φ hi ε (Ksl3 a d l κ) := rfl
theorem Ksl1_eq {A : Type} {T : Tb} {Φ : Ph} {a : C} {lo hi : CO} {κ : D → Ev → Option A} {d : D} {ε : Ev}: Ksl1 T Φ a lo hi κ d ε = dO T Φ lo ε (Ksl2 T Φ a d hi κ) := rfl
theorem e_slc {A : Type} {T : Tb} {Φ : Ph} {a : C} {lo hi : CO} {ε : Ev} {κ : D → Ev → Option A}: dE T Φ (.slc a lo hi) ε κ = dE T Φ a ε (Ksl1 T Φ a lo hi κ) := rfl
theorem Kand_bl {A : Type} {T : Tb} {Φ : Ph} {b : C} {κ : D → Ev → Option A} {c : Bool} {ε : Ev}: Kand T Φ b κ (.bl c) ε = hAnd c T Φ b ε κ := rfl
theorem e_and {A : Type} {T : Tb} {Φ : Ph} {a b : C} {ε : Ev} {κ : D → Ev → Option A}: dE T Φ (.and_ a b) ε κ = dE T Φ a ε (Kand T Φ b κ) := rfl
theorem Kor_bl {A : Type} {T : Tb} {Φ : Ph} {b : C} {κ : D → Ev → Option A} {c : Bool} {ε : Ev}: Kor T Φ b κ (.bl c) ε = hOr c T Φ b ε κ := rfl
theorem e_or {A : Type} {T : Tb} {Φ : Ph} {a b : C} {ε : Ev} {κ : D → Ev → Option A}: dE T Φ (.or_ a b) ε κ = dE T Φ a ε (Kor T Φ b κ) := rfl
theorem Korv1_eq {A : Type} {T : Tb} {Φ : Ph} {d : D} {b : C} {ε : Ev} {κ : D → Ev → Option A} {c : Bool}: Korv1 T Φ d b ε κ c = hOrv c T Φ d b ε κ := rfl
theorem Korv_eq {A : Type} {T : Tb} {Φ : Ph} {b : C} {κ : D → Ev → Option A} {d : D} {ε : Ev}: Korv T Φ b κ d ε = kO (truth d) (Korv1 T Φ d b ε κ) := rfl
theorem e_orv {A : Type} {T : Tb} {Φ : Ph} {a b : C} {ε : Ev} {κ : D → Ev → Option A}: dE T Φ (.orv a b) ε κ = dE T Φ a ε (Korv T Φ b κ) := rfl
theorem Kife_eq {A : Type} {T : Tb} {Φ : Ph} {a b : C} {κ : D → Ev → Option A} {c : Bool} {ε : Ev}: Kife T Φ a b κ c ε = hIfe c T Φ a b ε κ := rfl
theorem e_ife {A : Type} {T : Tb} {Φ : Ph} {t a b : C} {ε : Ev} {κ : D → Ev → Option A}: dE T Φ (.ife t a b) ε κ = dT T Φ t ε (Kife T Φ a b κ) := rfl
theorem Kch4_eq {A : Type} {q : P2} {e : D} {κ : D → Ev → Option A} {f : D} {ε : Ev}: Kch4 q e κ f ε = h2 q e f ε κ := rfl
theorem Kch3_t {A : Type} {T : Tb} {Φ : Ph} {q : P2} {c : C} {e : D} {κ : D → Ev → Option A} {ε : Ev}: Kch3 T Φ q c e κ (.bl true) ε = dE T Φ c ε (Kch4 q e κ) := rfl
theorem Kch3_f {A : Type} {T : Tb} {Φ : Ph} {q : P2} {c : C} {e : D} {κ : D → Ev → Option A} {ε : Ev}: Kch3 T Φ q c e κ (.bl false) ε = κ (.bl false) ε := rfl
theorem Kch2_eq {A : Type} {T : Tb} {Φ : Ph} {p q : P2} {c : C} {e : D} {ε : Ev} {κ : D → Ev → Option A} {d : D}: Kch2 T Φ p q c e ε κ d = h2 p d e ε (Kch3 T Φ q c e κ) := rfl
theorem Kch1_eq {A : Type} {T : Tb} {Φ : Ph} {p q : P2} {a c : C} {d : D} {κ : D → Ev → Option A} {e : D} {ε : Ev}: Kch1 T Φ p q a c d κ e ε = dL a d ε (Kch2 T Φ p q c e ε κ) := rfl
theorem Kch0_eq {A : Type} {T : Tb} {Φ : Ph} {p q : P2} {a b c : C} {κ : D → Ev → Option A} {d : D} {ε : Ev}: Kch0 T Φ p q a b c κ d ε = dE T Φ b ε (Kch1 T Φ p q a c d κ) := rfl
theorem e_chain {A : Type} {T : Tb} {Φ : Ph} {p q : P2} {a b c : C} {ε : Ev} {κ : D → Ev → Option A}: dE T Φ (.chain p q a b c) ε κ = dE T Φ a ε (Kch0 T Φ p q a b c κ) := rfl
theorem Klst_eq {A : Type} {κ : D → Ev → Option A} {ds : List D} {ε : Ev}: Klst κ ds ε = hLim (decide (ds.length ≤ lim)) (.lst ds) ε κ := rfl
theorem Ktup_eq {A : Type} {κ : D → Ev → Option A} {ds : List D} {ε : Ev}: Ktup κ ds ε = hLim (decide (ds.length ≤ lim)) (.tup ds) ε κ := rfl
theorem e_lst {A : Type} {T : Tb} {Φ : Ph} {as : Cs} {ε : Ev} {κ : D → Ev → Option A}: dE T Φ (.lst as) ε κ = dEs T Φ as ε (Klst κ) := rfl
theorem e_tup {A : Type} {T : Tb} {Φ : Ph} {as : Cs} {ε : Ev} {κ : D → Ev → Option A}: dE T Φ (.tup as) ε κ = dEs T Φ as ε (Ktup κ) := rfl
theorem Kc3_eq {A : Type} {Φ : Ph} {f : Nat} {as : Cs} {ds : List D} {ε : Ev} {κ : D → Ev → Option A} {df : Df}: Kc3 Φ f as ds ε κ df = hM df.ms ds df.ms (Φ f ds) as ε κ := rfl
theorem Kc2_eq {A : Type} {T : Tb} {Φ : Ph} {f : Nat} {as : Cs} {ε : Ev} {κ : D → Ev → Option A} {ds : List D}: Kc2 T Φ f as ε κ ds = kO (T f) (Kc3 Φ f as ds ε κ) := rfl
theorem Kc1_eq {A : Type} {T : Tb} {Φ : Ph} {f : Nat} {as : Cs} {κ : D → Ev → Option A} {ds : List D} {ε : Ev}: Kc1 T Φ f as κ ds ε = dLs as ds ε (Kc2 T Φ f as ε κ) := rfl
theorem e_call {A : Type} {T : Tb} {Φ : Ph} {f : Nat} {as : Cs} {ε : Ev} {κ : D → Ev → Option A}: dE T Φ (.call f as) ε κ = dEs T Φ as ε (Kc1 T Φ f as κ) := rfl
theorem KcpE_eq {A : Type} {ε : Ev} {own : List Nat} {κ : D → Ev → Option A} {ys : List D} {ε2 : Ev}: KcpE ε own κ ys ε2 = hV (.lst ys) (backE ε ε2 own) κ := rfl
theorem Kcp_eq {A : Type} {T : Tb} {Φ : Ph} {own : List Nat} {g : Tg} {t e : C} {κ : D → Ev → Option A} {ds : List D} {ε : Ev}: Kcp T Φ own g t e κ ds ε = compC (cB T Φ own g t e) ds ε [] (KcpE ε own κ) := rfl
theorem e_comp {A : Type} {T : Tb} {Φ : Ph} {own : List Nat} {g : Tg} {it : CI} {t e : C} {ε : Ev} {κ : D → Ev → Option A}: dE T Φ (.comp own g it t e) ε κ = dI T Φ it ε (Kcp T Φ own g t e κ) := rfl
theorem es_nil {A : Type} {T : Tb} {Φ : Ph} {ε : Ev} {κ : List D → Ev → Option A}: dEs T Φ .nil ε κ = κ [] ε := rfl
theorem Kes2_eq {A : Type} {d : D} {κ : List D → Ev → Option A} {ds : List D} {ε : Ev}: Kes2 d κ ds ε = κ (d :: ds) ε := rfl
theorem Kes1_eq {A : Type} {T : Tb} {Φ : Ph} {r : Cs} {κ : List D → Ev → Option A} {d : D} {ε : Ev}: Kes1 T Φ r κ d ε = dEs T Φ r ε (Kes2 d κ) := rfl
theorem es_cons {A : Type} {T : Tb} {Φ : Ph} {a : C} {r : Cs} {ε : Ev} {κ : List D → Ev → Option A}: dEs T Φ (.cons a r) ε κ = dE T Φ a ε (Kes1 T Φ r κ) := rfl
theorem o_none {A : Type} {T : Tb} {Φ : Ph} {ε : Ev} {κ : Option Int → Ev → Option A}: dO T Φ .none ε κ = κ none ε := rfl
theorem Ko_int {A : Type} {κ : Option Int → Ev → Option A} {i : Int} {ε : Ev}: Ko κ (.int i) ε = κ (some i) ε := rfl
theorem o_some {A : Type} {T : Tb} {Φ : Ph} {a : C} {ε : Ev} {κ : Option Int → Ev → Option A}: dO T Φ (.some a) ε κ = dE T Φ a ε (Ko κ) := rfl
theorem Ksq_eq {A : Type} {κ : List D → Ev → Option A} {d : D} {ε : Ev}: Ksq κ d ε = hSq d ε κ := rfl
theorem i_seq {A : Type} {T : Tb} {Φ : Ph} {a : C} {ε : Ev} {κ : List D → Ev → Option A}: dI T Φ (.seq a) ε κ = dE T Φ a ε (Ksq κ) := rfl
theorem Krng1_int {A : Type} {κ : List D → Ev → Option A} {j : Int} {ε : Ev}: Krng1 κ (.int j) ε = hRng (okR j) 0 j ε κ := rfl
theorem i_rng1 {A : Type} {T : Tb} {Φ : Ph} {a : C} {ε : Ev} {κ : List D → Ev → Option A}: dI T Φ (.rng1 a) ε κ = dE T Φ a ε (Krng1 κ) := rfl
theorem Krng2b_eq {A : Type} {d : D} {κ : List D → Ev → Option A} {e : D} {ε : Ev}: Krng2b d κ e ε = kI d fun i => kI e fun j => hRng (okR i && okR j) i (j - i) ε κ := rfl
theorem Krng2b_int {A : Type} {i j : Int} {ε : Ev} {κ : List D → Ev → Option A}: Krng2b (.int i) κ (.int j) ε = hRng (okR i && okR j) i (j - i) ε κ := rfl
theorem Krng2a_eq {A : Type} {T : Tb} {Φ : Ph} {b : C} {κ : List D → Ev → Option A} {d : D} {ε : Ev}: Krng2a T Φ b κ d ε = dE T Φ b ε (Krng2b d κ) := rfl
theorem i_rng2 {A : Type} {T : Tb} {Φ : Ph} {a b : C} {ε : Ev} {κ : List D → Ev → Option A}: dI T Φ (.rng2 a b) ε κ = dE T Φ a ε (Krng2a T Φ b κ) := rfl
theorem Kzip2_eq {A : Type} {e : D} {ε : Ev} {κ : List D → Ev → Option A} {d : D}: Kzip2 e ε κ d = hZip d e ε κ := rfl
theorem Kzip1_eq {A : Type} {a : C} {d : D} {κ : List D → Ev → Option A} {e : D} {ε : Ev}: Kzip1 a d κ e ε = dL a d ε (Kzip2 e ε κ) := rfl
theorem Kzip0_eq {A : Type} {T : Tb} {Φ : Ph} {a b : C} {κ : List D → Ev → Option A} {d : D} {ε : Ev}: Kzip0 T Φ a b κ d ε = dE T Φ b ε (Kzip1 a d κ) := rfl
theorem zip_aux {A : Type} {d e : D} {ε : Ev} {κ : List D → Ev → Option A} : (kL d fun xs => kL e fun ys => κ (zipD xs ys) ε) = hZip d e ε κ := by cases d <;> cases e <;> rfl
theorem i_zip {A : Type} {T : Tb} {Φ : Ph} {a b : C} {ε : Ev} {κ : List D → Ev → Option A} : dI T Φ (.zip a b) ε κ = dE T Φ a ε (Kzip0 T Φ a b κ) := by
  simp only [dI, zip_aux]; rfl
theorem Kenum_lst {A : Type} {κ : List D → Ev → Option A} {xs : List D} {ε : Ev}: Kenum κ (.lst xs) ε = κ (enumD 0 xs) ε := rfl
theorem i_enum {A : Type} {T : Tb} {Φ : Ph} {a : C} {ε : Ev} {κ : List D → Ev → Option A}: dI T Φ (.enum a) ε κ = dE T Φ a ε (Kenum κ) := rfl
theorem KT_eq {A : Type} {κ : Bool → Ev → Option A} {d : D} {ε : Ev}: KT κ d ε = hT d ε κ := rfl
theorem KtAnd_eq {A : Type} {T : Tb} {Φ : Ph} {b : C} {κ : Bool → Ev → Option A} {c : Bool} {ε : Ev}: KtAnd T Φ b κ c ε = hTand c T Φ b ε κ := rfl
theorem KtOr_eq {A : Type} {T : Tb} {Φ : Ph} {b : C} {κ : Bool → Ev → Option A} {c : Bool} {ε : Ev}: KtOr T Φ b κ c ε = hTor c T Φ b ε κ := rfl
theorem KtNot_eq {A : Type} {κ : Bool → Ev → Option A} {c : Bool} {ε : Ev}: KtNot κ c ε = κ (!c) ε := rfl
theorem t_and {A : Type} {T : Tb} {Φ : Ph} {a b : C} {ε : Ev} {κ : Bool → Ev → Option A}: dT T Φ (.and_ a b) ε κ = dT T Φ a ε (KtAnd T Φ b κ) := rfl
theorem t_or {A : Type} {T : Tb} {Φ : Ph} {a b : C} {ε : Ev} {κ : Bool → Ev → Option A}: dT T Φ (.or_ a b) ε κ = dT T Φ a ε (KtOr T Φ b κ) := rfl
theorem t_not {A : Type} {T : Tb} {Φ : Ph} {a : C} {ε : Ev} {κ : Bool → Ev → Option A}: dT T Φ (.p1 .not_ a) ε κ = dT T Φ a ε (KtNot κ) := rfl
theorem t_len {A : Type} {T : Tb} {Φ : Ph} {a : C} {ε : Ev} {κ : Bool → Ev → Option A}: dT T Φ (.p1 .len a) ε κ = dE T Φ a ε (K1 .len (KT κ)) := rfl
theorem t_int_ {A : Type} {T : Tb} {Φ : Ph} {a : C} {ε : Ev} {κ : Bool → Ev → Option A}: dT T Φ (.p1 .int_ a) ε κ = dE T Φ a ε (K1 .int_ (KT κ)) := rfl
theorem t_neg {A : Type} {T : Tb} {Φ : Ph} {a : C} {ε : Ev} {κ : Bool → Ev → Option A}: dT T Φ (.p1 .neg a) ε κ = dE T Φ a ε (K1 .neg (KT κ)) := rfl
theorem t_repr_ {A : Type} {T : Tb} {Φ : Ph} {a : C} {ε : Ev} {κ : Bool → Ev → Option A}: dT T Φ (.p1 .repr_ a) ε κ = dE T Φ a ε (K1 .repr_ (KT κ)) := rfl
theorem t_all_ {A : Type} {T : Tb} {Φ : Ph} {a : C} {ε : Ev} {κ : Bool → Ev → Option A}: dT T Φ (.p1 .all_ a) ε κ = dE T Φ a ε (K1 .all_ (KT κ)) := rfl
theorem t_any_ {A : Type} {T : Tb} {Φ : Ph} {a : C} {ε : Ev} {κ : Bool → Ev → Option A}: dT T Φ (.p1 .any_ a) ε κ = dE T Φ a ε (K1 .any_ (KT κ)) := rfl
theorem t_sum_ {A : Type} {T : Tb} {Φ : Ph} {a : C} {ε : Ev} {κ : Bool → Ev → Option A}: dT T Φ (.p1 .sum_ a) ε κ = dE T Φ a ε (K1 .sum_ (KT κ)) := rfl
theorem t_isN {A : Type} {T : Tb} {Φ : Ph} {a : C} {ε : Ev} {κ : Bool → Ev → Option A}: dT T Φ (.p1 .isN a) ε κ = dE T Φ a ε (K1 .isN (KT κ)) := rfl
theorem t_notN {A : Type} {T : Tb} {Φ : Ph} {a : C} {ε : Ev} {κ : Bool → Ev → Option A}: dT T Φ (.p1 .notN a) ε κ = dE T Φ a ε (K1 .notN (KT κ)) := rfl
theorem t_abs_ {A : Type} {T : Tb} {Φ : Ph} {a : C} {ε : Ev} {κ : Bool → Ev → Option A}: dT T Φ (.p1 .abs_ a) ε κ = dE T Φ a ε (K1 .abs_ (KT κ)) := rfl
theorem t_listOf {A : Type} {T : Tb} {Φ : Ph} {a : C} {ε : Ev} {κ : Bool → Ev → Option A}: dT T Φ (.p1 .listOf a) ε κ = dE T Φ a ε (K1 .listOf (KT κ)) := rfl
theorem t_maxL {A : Type} {T : Tb} {Φ : Ph} {a : C} {ε : Ev} {κ : Bool → Ev → Option A}: dT T Φ (.p1 .maxL a) ε κ = dE T Φ a ε (K1 .maxL (KT κ)) := rfl
theorem t_minL {A : Type} {T : Tb} {Φ : Ph} {a : C} {ε : Ev} {κ : Bool → Ev → Option A}: dT T Φ (.p1 .minL a) ε κ = dE T Φ a ε (K1 .minL (KT κ)) := rfl
theorem t_isTrue_ {A : Type} {T : Tb} {Φ : Ph} {a : C} {ε : Ev} {κ : Bool → Ev → Option A}: dT T Φ (.p1 .isTrue_ a) ε κ = dE T Φ a ε (K1 .isTrue_ (KT κ)) := rfl
theorem t_isFalse_ {A : Type} {T : Tb} {Φ : Ph} {a : C} {ε : Ev} {κ : Bool → Ev → Option A}: dT T Φ (.p1 .isFalse_ a) ε κ = dE T Φ a ε (K1 .isFalse_ (KT κ)) := rfl
theorem t_sorted_ {A : Type} {T : Tb} {Φ : Ph} {a : C} {ε : Ev} {κ : Bool → Ev → Option A}: dT T Φ (.p1 .sorted_ a) ε κ = dE T Φ a ε (K1 .sorted_ (KT κ)) := rfl
theorem t_notTrue_ {A : Type} {T : Tb} {Φ : Ph} {a : C} {ε : Ev} {κ : Bool → Ev → Option A}: dT T Φ (.p1 .notTrue_ a) ε κ = dE T Φ a ε (K1 .notTrue_ (KT κ)) := rfl
theorem t_notFalse_ {A : Type} {T : Tb} {Φ : Ph} {a : C} {ε : Ev} {κ : Bool → Ev → Option A}: dT T Φ (.p1 .notFalse_ a) ε κ = dE T Φ a ε (K1 .notFalse_ (KT κ)) := rfl
theorem t_bool_ {A : Type} {T : Tb} {Φ : Ph} {a : C} {ε : Ev} {κ : Bool → Ev → Option A}: dT T Φ (.p1 .bool_ a) ε κ = dE T Φ a ε (K1 .bool_ (KT κ)) := rfl
theorem t_dictOf {A : Type} {T : Tb} {Φ : Ph} {a : C} {ε : Ev} {κ : Bool → Ev → Option A}: dT T Φ (.p1 .dictOf a) ε κ = dE T Φ a ε (K1 .dictOf (KT κ)) := rfl
theorem t_mkD {A : Type} {T : Tb} {Φ : Ph} {a : C} {ε : Ev} {κ : Bool → Ev → Option A}: dT T Φ (.p1 .mkD a) ε κ = dE T Φ a ε (K1 .mkD (KT κ)) := rfl
theorem t_isT {A : Type} {T : Tb} {Φ : Ph} {t : Ty} {a : C} {ε : Ev} {κ : Bool → Ev → Option A}: dT T Φ (.p1 (.isT t) a) ε κ = dE T Φ a ε (K1 (.isT t) (KT κ)) := rfl
theorem t_p2 {A : Type} {T : Tb} {Φ : Ph} {p : P2} {a b : C} {ε : Ev} {κ : Bool → Ev → Option A}: dT T Φ (.p2 p a b) ε κ = dE T Φ a ε (K2a T Φ p a b (KT κ)) := rfl
theorem t_bl {A : Type} {T : Tb} {Φ : Ph} {b : Bool} {ε : Ev} {κ : Bool → Ev → Option A}: dT T Φ (.bl b) ε κ = κ b ε := rfl
theorem t_var {A : Type} {T : Tb} {Φ : Ph} {i : Nat} {ε : Ev} {κ : Bool → Ev → Option A}: dT T Φ (.var i) ε κ = kO (look ε i) (KR ε (KT κ)) := rfl
theorem t_chain {A : Type} {T : Tb} {Φ : Ph} {p q : P2} {a b c : C} {ε : Ev} {κ : Bool → Ev → Option A}: dT T Φ (.chain p q a b c) ε κ = dE T Φ a ε (Kch0 T Φ p q a b c (KT κ)) := rfl
theorem t_call {A : Type} {T : Tb} {Φ : Ph} {f : Nat} {as : Cs} {ε : Ev} {κ : Bool → Ev → Option A}: dT T Φ (.call f as) ε κ = dEs T Φ as ε (Kc1 T Φ f as (KT κ)) := rfl
theorem Kset_eq {A : Type} {i : Nat} {κ : R → Option A} {d : D} {ε : Ev}: Kset i κ d ε = hE (putI ε i d) κ := rfl
theorem s_set {A : Type} {T : Tb} {Φ : Ph} {o : Bool} {i : Nat} {e : C} {ε : Ev} {κ : R → Option A}: dS T Φ (.set o i e) ε κ = dE T Φ e ε (Kset i κ) := rfl
theorem KNx_eq {A : Type} {κ : R → Option A} {ε : Ev}: KNx κ ε = κ (.nx ε) := rfl
theorem Ktgt_eq {A : Type} {g : Tg} {κ : R → Option A} {d : D} {ε : Ev}: Ktgt g κ d ε = dTg g d ε (KNx κ) := rfl
theorem s_tgt {A : Type} {T : Tb} {Φ : Ph} {g : Tg} {e : C} {ε : Ev} {κ : R → Option A}: dS T Φ (.tgt g e) ε κ = dE T Φ e ε (Ktgt g κ) := rfl
theorem Kpar2_eq {A : Type} {i j : Nat} {d : D} {κ : R → Option A} {e : D} {ε : Ev}: Kpar2 i j d κ e ε = hE (putI (putI ε i d) j e) κ := rfl
theorem Kpar1_eq {A : Type} {T : Tb} {Φ : Ph} {i j : Nat} {b : C} {κ : R → Option A} {d : D} {ε : Ev}: Kpar1 T Φ i j b κ d ε = dE T Φ b ε (Kpar2 i j d κ) := rfl
theorem s_par {A : Type} {T : Tb} {Φ : Ph} {i j : Nat} {a b : C} {ε : Ev} {κ : R → Option A}: dS T Φ (.par i j a b) ε κ = dE T Φ a ε (Kpar1 T Φ i j b κ) := rfl
theorem Kdp4_eq {A : Type} {i : Nat} {k : Int} {d : D} {xs : List (Key × D)} {ε : Ev} {κ : R → Option A} {c : Bool}: Kdp4 i k d xs ε κ c = kif c (hE (putI ε i (.dct (putKD xs (.inl k) d))) κ) none := rfl
theorem Kdp3_eq {A : Type} {i : Nat} {ε : Ev} {d : D} {k : D} {κ : R → Option A} {x : D}: Kdp3 i ε d k κ x = kDc x fun xs => kI k fun k => Kdp4 i k d xs ε κ (decide (xs.length < lim)) := rfl
theorem Kdp3_l {A : Type} {i : Nat} {ε : Ev} {d : D} {k : Int} {xs : List (Key × D)} {κ : R → Option A}: Kdp3 i ε d (.int k) κ (.dct xs) = hDp (decide (xs.length < lim)) i k d xs ε κ := by simp only [Kdp3, kDc, kI, Kdp4, hDp, kif]
theorem Kdp2_eq {A : Type} {i : Nat} {d : D} {κ : R → Option A} {k : D} {ε : Ev}: Kdp2 i d κ k ε = kO (look ε i) (Kdp3 i ε d k κ) := rfl
theorem Kdp1_eq {A : Type} {T : Tb} {Φ : Ph} {i : Nat} {ix : C} {κ : R → Option A} {d : D} {ε : Ev}: Kdp1 T Φ i ix κ d ε = dE T Φ ix ε (Kdp2 i d κ) := rfl
theorem Kdp0_l {A : Type} {T : Tb} {Φ : Ph} {i : Nat} {ix e : C} {ε : Ev} {κ : R → Option A} {xs : List (Key × D)}: Kdp0 T Φ i ix e ε κ (.dct xs) = dE T Φ e ε (Kdp1 T Φ i ix κ) := rfl
theorem s_dput {A : Type} {T : Tb} {Φ : Ph} {i : Nat} {ix e : C} {ε : Ev} {κ : R → Option A}: dS T Φ (.dput i ix e) ε κ = kO (look ε i) (Kdp0 T Φ i ix e ε κ) := rfl
theorem Ksub4_eq {A : Type} {i : Nat} {ε : Ev} {d : D} {xs : List D} {κ : R → Option A} {j : Nat}: Ksub4 i ε d xs κ j = hE (putI ε i (.lst (xs.set j d))) κ := rfl
theorem Ksub3_eq {A : Type} {i : Nat} {ε : Ev} {d : D} {k : D} {κ : R → Option A} {x : D}: Ksub3 i ε d k κ x = kL x fun xs => kI k fun k => kO (ixN xs.length k) (Ksub4 i ε d xs κ) := rfl
theorem Ksub3_l {A : Type} {i : Nat} {ε : Ev} {d : D} {k : Int} {xs : List D} {κ : R → Option A}: Ksub3 i ε d (.int k) κ (.lst xs) = kO (ixN xs.length k) (Ksub4 i ε d xs κ) := rfl
theorem Ksub2_eq {A : Type} {i : Nat} {d : D} {κ : R → Option A} {k : D} {ε : Ev}: Ksub2 i d κ k ε = kO (look ε i) (Ksub3 i ε d k κ) := rfl
theorem Ksub1_eq {A : Type} {T : Tb} {Φ : Ph} {i : Nat} {ix : C} {κ : R → Option A} {d : D} {ε : Ev}: Ksub1 T Φ i ix κ d ε = dE T Φ ix ε (Ksub2 i d κ) := rfl
theorem Ksub0_l {A : Type} {T : Tb} {Φ : Ph} {i : Nat} {ix e : C} {ε : Ev} {κ : R → Option A} {xs : List D}: Ksub0 T Φ i ix e ε κ (.lst xs) = dE T Φ e ε (Ksub1 T Φ i ix κ) := rfl
theorem s_sub {A : Type} {T : Tb} {Φ : Ph} {i : Nat} {ix e : C} {ε : Ev} {κ : R → Option A}: dS T Φ (.sub i ix e) ε κ = kO (look ε i) (Ksub0 T Φ i ix e ε κ) := rfl
theorem Kapp2_l {A : Type} {i : Nat} {ε : Ev} {d : D} {κ : R → Option A} {xs : List D}: Kapp2 i ε d κ (.lst xs) = hApp (decide (xs.length < lim)) i (xs ++ [d]) ε κ := rfl
theorem Kapp1_eq {A : Type} {i : Nat} {κ : R → Option A} {d : D} {ε : Ev}: Kapp1 i κ d ε = kO (look ε i) (Kapp2 i ε d κ) := rfl
theorem Kapp0_l {A : Type} {T : Tb} {Φ : Ph} {i : Nat} {e : C} {ε : Ev} {κ : R → Option A} {xs : List D}: Kapp0 T Φ i e ε κ (.lst xs) = dE T Φ e ε (Kapp1 i κ) := rfl
theorem s_app {A : Type} {T : Tb} {Φ : Ph} {i : Nat} {e : C} {ε : Ev} {κ : R → Option A}: dS T Φ (.app i e) ε κ = kO (look ε i) (Kapp0 T Φ i e ε κ) := rfl
theorem Kext2_eq {A : Type} {i : Nat} {ε : Ev} {d : D} {κ : R → Option A} {x : D}: Kext2 i ε d κ x = kL x fun xs => kL d fun ys => hApp (decide (xs.length + ys.length ≤ lim)) i (xs ++ ys) ε κ := rfl
theorem Kext2_l {A : Type} {i : Nat} {ε : Ev} {xs ys : List D} {κ : R → Option A}: Kext2 i ε (.lst ys) κ (.lst xs) = hApp (decide (xs.length + ys.length ≤ lim)) i (xs ++ ys) ε κ := rfl
theorem Kext1_eq {A : Type} {i : Nat} {κ : R → Option A} {d : D} {ε : Ev}: Kext1 i κ d ε = kO (look ε i) (Kext2 i ε d κ) := rfl
theorem Kext0_l {A : Type} {T : Tb} {Φ : Ph} {i : Nat} {e : C} {ε : Ev} {κ : R → Option A} {xs : List D}: Kext0 T Φ i e ε κ (.lst xs) = dE T Φ e ε (Kext1 i κ) := rfl
theorem s_ext {A : Type} {T : Tb} {Φ : Ph} {i : Nat} {e : C} {ε : Ev} {κ : R → Option A}: dS T Φ (.ext i e) ε κ = kO (look ε i) (Kext0 T Φ i e ε κ) := rfl
theorem Kclr_l {A : Type} {i : Nat} {ε : Ev} {κ : R → Option A} {xs : List D}: Kclr i ε κ (.lst xs) = hE (putI ε i (.lst [])) κ := rfl
theorem s_clr {A : Type} {T : Tb} {Φ : Ph} {i : Nat} {ε : Ev} {κ : R → Option A}: dS T Φ (.clr i) ε κ = kO (look ε i) (Kclr i ε κ) := rfl
theorem KapT1_eq {A : Type} {x : D} {κ : R → Option A} {d : D} {ε : Ev}: KapT1 x κ d ε = kL x fun xs => kif (decide (xs.length < lim)) (κ (.nx ε)) none := rfl
theorem KapT1_l {A : Type} {d : D} {ε : Ev} {xs : List D} {κ : R → Option A}: KapT1 (.lst xs) κ d ε = kif (decide (xs.length < lim)) (hE ε κ) none := rfl
theorem KapT0_eq {A : Type} {T : Tb} {Φ : Ph} {e : C} {κ : R → Option A} {x : D} {ε : Ev}: KapT0 T Φ e κ x ε = dE T Φ e ε (KapT1 x κ) := rfl
theorem s_appT {A : Type} {T : Tb} {Φ : Ph} {a e : C} {ε : Ev} {κ : R → Option A}: dS T Φ (.appT a e) ε κ = dE T Φ a ε (KapT0 T Φ e κ) := rfl
theorem Kaug1_eq {A : Type} {p : P2} {i : Nat} {x : D} {κ : R → Option A} {d : D} {ε : Ev}: Kaug1 p i x κ d ε = hA p x d i ε κ := rfl
theorem Kaug0_eq {A : Type} {T : Tb} {Φ : Ph} {p : P2} {i : Nat} {e : C} {ε : Ev} {κ : R → Option A} {x : D}: Kaug0 T Φ p i e ε κ x = dE T Φ e ε (Kaug1 p i x κ) := rfl
theorem s_aug {A : Type} {T : Tb} {Φ : Ph} {p : P2} {i : Nat} {e : C} {ε : Ev} {κ : R → Option A}: dS T Φ (.aug p i e) ε κ = kO (look ε i) (Kaug0 T Φ p i e ε κ) := rfl
theorem Kex_eq {A : Type} {κ : R → Option A} {d : D} {ε : Ev}: Kex κ d ε = κ (.nx ε) := rfl
theorem s_ex {A : Type} {T : Tb} {Φ : Ph} {e : C} {ε : Ev} {κ : R → Option A}: dS T Φ (.ex e) ε κ = dE T Φ e ε (Kex κ) := rfl
theorem Kret_eq {A : Type} {κ : R → Option A} {d : D} {ε : Ev}: Kret κ d ε = κ (.rt d ε) := rfl
theorem s_ret {A : Type} {T : Tb} {Φ : Ph} {e : C} {ε : Ev} {κ : R → Option A}: dS T Φ (.ret e) ε κ = dE T Φ e ε (Kret κ) := rfl
theorem KretO_l {A : Type} {ε : Ev} {κ : R → Option A} {xs : List D}: KretO ε κ (.lst xs) = κ (.rt (.lst xs) ε) := rfl
theorem s_retO {A : Type} {T : Tb} {Φ : Ph} {i : Nat} {ε : Ev} {κ : R → Option A}: dS T Φ (.retO i) ε κ = kO (look ε i) (KretO ε κ) := rfl
theorem s_retN {A : Type} {T : Tb} {Φ : Ph} {ε : Ev} {κ : R → Option A}: dS T Φ .retN ε κ = κ (.rt .non ε) := rfl
theorem Kifs_eq {A : Type} {T : Tb} {Φ : Ph} {a b : Ss} {κ : R → Option A} {c : Bool} {ε : Ev}: Kifs T Φ a b κ c ε = hIfs c T Φ a b ε κ := rfl
theorem s_ifs {A : Type} {T : Tb} {Φ : Ph} {t : C} {a b : Ss} {ε : Ev} {κ : R → Option A}: dS T Φ (.ifs t a b) ε κ = dT T Φ t ε (Kifs T Φ a b κ) := rfl
theorem KfB_eq {A : Type} {T : Tb} {Φ : Ph} {b : Ss} {κ : R → Option A} {ε : Ev}: KfB T Φ b κ ε = dSs T Φ b ε κ := rfl
theorem fB_eq {A : Type} {T : Tb} {Φ : Ph} {g : Tg} {b : Ss} {d : D} {ε : Ev} {κ : R → Option A}: fB T Φ g b d ε κ = dTg g d ε (KfB T Φ b κ) := rfl
theorem Kfor_eq {A : Type} {T : Tb} {Φ : Ph} {J : List Nat} {g : Tg} {b : Ss} {κ : R → Option A} {ds : List D} {ε : Ev}: Kfor T Φ J g b κ ds ε = forC J (fB T Φ g b) ds ε κ := rfl
theorem s_fors {A : Type} {T : Tb} {Φ : Ph} {J : List Nat} {g : Tg} {it : CI} {b : Ss} {ε : Ev} {κ : R → Option A}: dS T Φ (.fors J g it b) ε κ = dI T Φ it ε (Kfor T Φ J g b κ) := rfl
theorem s_whil {A : Type} {T : Tb} {Φ : Ph} {J : List Nat} {n : Nat} {t : C} {b : Ss} {ε : Ev} {κ : R → Option A}: dS T Φ (.whil J n t b) ε κ = whilC J (dT T Φ t) (dSs T Φ b) n ε κ := rfl
theorem s_brk {A : Type} {T : Tb} {Φ : Ph} {ε : Ev} {κ : R → Option A}: dS T Φ .brk ε κ = κ (.bk ε) := rfl
theorem s_cnt {A : Type} {T : Tb} {Φ : Ph} {ε : Ev} {κ : R → Option A}: dS T Φ .cnt ε κ = κ (.ct ε) := rfl
theorem s_pas {A : Type} {T : Tb} {Φ : Ph} {ε : Ev} {κ : R → Option A}: dS T Φ .pas ε κ = κ (.nx ε) := rfl
theorem s_dem {A : Type} {T : Tb} {Φ : Ph} {i : Nat} {s : S} {ε : Ev} {κ : R → Option A}: dS T Φ (.dem i s) ε κ = dS T Φ s ε κ := rfl
theorem Kkil_eq {A : Type} {T : Tb} {Φ : Ph} {s : S} {κ : R → Option A} {ε : Ev}: Kkil T Φ s κ ε = dS T Φ s ε κ := rfl
theorem s_kil {A : Type} {T : Tb} {Φ : Ph} {J : List Nat} {s : S} {ε : Ev} {κ : R → Option A}: dS T Φ (.kil J s) ε κ = hP (wipeE ε J) (Kkil T Φ s κ) := rfl
theorem ss_nil {A : Type} {T : Tb} {Φ : Ph} {ε : Ev} {κ : R → Option A}: dSs T Φ .nil ε κ = κ (.nx ε) := rfl
theorem KN_nx {A : Type} {T : Tb} {Φ : Ph} {r : Ss} {κ : R → Option A} {ε : Ev}: KN T Φ r κ (.nx ε) = dSs T Φ r ε κ := rfl
theorem KN_rt {A : Type} {T : Tb} {Φ : Ph} {r : Ss} {κ : R → Option A} {d : D} {ε : Ev}: KN T Φ r κ (.rt d ε) = κ (.rt d ε) := rfl
theorem KN_bk {A : Type} {T : Tb} {Φ : Ph} {r : Ss} {κ : R → Option A} {ε : Ev}: KN T Φ r κ (.bk ε) = κ (.bk ε) := rfl
theorem KN_ct {A : Type} {T : Tb} {Φ : Ph} {r : Ss} {κ : R → Option A} {ε : Ev}: KN T Φ r κ (.ct ε) = κ (.ct ε) := rfl
theorem ss_cons {A : Type} {T : Tb} {Φ : Ph} {s : S} {r : Ss} {ε : Ev} {κ : R → Option A}: dSs T Φ (.cons s r) ε κ = dS T Φ s ε (KN T Φ r κ) := rfl
theorem KS_nx {A : Type} {K : Ev → Option A} {κ : R → Option A} {ε : Ev}: KS K κ (.nx ε) = K ε := rfl
theorem KS_rt {A : Type} {K : Ev → Option A} {κ : R → Option A} {d : D} {ε : Ev}: KS K κ (.rt d ε) = κ (.rt d ε) := rfl
theorem KS_bk {A : Type} {K : Ev → Option A} {κ : R → Option A} {ε : Ev}: KS K κ (.bk ε) = κ (.bk ε) := rfl
theorem KS_ct {A : Type} {K : Ev → Option A} {κ : R → Option A} {ε : Ev}: KS K κ (.ct ε) = κ (.ct ε) := rfl
theorem Kw_eq {A : Type} {J : List Nat} {K : Ev → Option A} {ε : Ev}: Kw J K ε = hP (wipeE ε J) K := rfl
theorem Kwa_eq {A : Type} {own : List Nat} {K : List D → Ev → Option A} {ys : List D} {y : D} {ε : Ev}: Kwa own K ys y ε = K (ys ++ [y]) (wipeE ε own) := rfl
theorem Kwn_eq {A : Type} {own : List Nat} {K : List D → Ev → Option A} {ys : List D} {ε : Ev}: Kwn own K ys ε = K ys (wipeE ε own) := rfl
theorem Kwd_eq {A : Type} {own : List Nat} {K : D → Ev → Option A} {y : D} {ε : Ev}: Kwd own K y ε = K y (wipeE ε own) := rfl
theorem KcW2_eq {A : Type} {T : Tb} {Φ : Ph} {e : C} {ky : D → Ev → Option A} {kn : Ev → Option A} {c : Bool} {ε : Ev}: KcW2 T Φ e ky kn c ε = hCw c T Φ e ε ky kn := rfl
theorem KcW1_eq {A : Type} {T : Tb} {Φ : Ph} {t e : C} {ky : D → Ev → Option A} {kn : Ev → Option A} {ε : Ev}: KcW1 T Φ t e ky kn ε = dT T Φ t ε (KcW2 T Φ e ky kn) := rfl
theorem KcB_eq {A : Type} {T : Tb} {Φ : Ph} {g : Tg} {t e : C} {d : D} {ky : D → Ev → Option A} {kn : Ev → Option A} {ε : Ev}: KcB T Φ g t e d ky kn ε = cW T Φ g t e d ε ky kn := rfl
theorem cB_eq {A : Type} {T : Tb} {Φ : Ph} {own : List Nat} {g : Tg} {t e : C} {d : D} {ε : Ev} {ky : D → Ev → Option A} {kn : Ev → Option A}: cB T Φ own g t e d ε ky kn = hP (wipeE ε own) (KcB T Φ g t e d ky kn) := rfl
theorem cW_eq {A : Type} {T : Tb} {Φ : Ph} {g : Tg} {t e : C} {d : D} {ε : Ev} {ky : D → Ev → Option A} {kn : Ev → Option A}: cW T Φ g t e d ε ky kn = dTg g d ε (KcW1 T Φ t e ky kn) := rfl
theorem KWhl_eq {A : Type} {f : Ev → (R → Option A) → Option A} {J : List Nat} {K : Ev → Option A} {κ : R → Option A} {c : Bool} {ε : Ev}: KWhl f J K κ c ε = hWhl c f J K ε κ := rfl
theorem KcpY_eq {A : Type} {f : D → Ev → (D → Ev → Option A) → (Ev → Option A) → Option A} {ds acc : List D} {κ : List D → Ev → Option A} {y : D} {ε : Ev}: KcpY f ds acc κ y ε = hCp (decide (acc.length < lim)) f ds (acc ++ [y]) ε κ := rfl
theorem KcpN_eq {A : Type} {f : D → Ev → (D → Ev → Option A) → (Ev → Option A) → Option A} {ds acc : List D} {κ : List D → Ev → Option A} {ε : Ev}: KcpN f ds acc κ ε = compC f ds ε acc κ := rfl
theorem cp_nil {A : Type} {f : D → Ev → (D → Ev → Option A) → (Ev → Option A) → Option A} {ε : Ev} {acc : List D} {κ : List D → Ev → Option A}: compC f [] ε acc κ = κ acc ε := rfl
theorem cp_cons {A : Type} {f : D → Ev → (D → Ev → Option A) → (Ev → Option A) → Option A} {d : D} {ds : List D} {ε : Ev} {acc : List D} {κ : List D → Ev → Option A}: compC f (d :: ds) ε acc κ = f d ε (KcpY f ds acc κ) (KcpN f ds acc κ) := rfl
theorem cp_t {A : Type} {f : D → Ev → (D → Ev → Option A) → (Ev → Option A) → Option A} {ds acc : List D} {ε : Ev} {κ : List D → Ev → Option A}: hCp true f ds acc ε κ = compC f ds ε acc κ := rfl
theorem cp_dt {A : Type} {f : D → Ev → (D → Ev → Option A) → (Ev → Option A) → Option A} {ds acc : List D} {ε : Ev} {κ : List D → Ev → Option A} {p : Prop} [Decidable p] (h : p): hCp (decide p) f ds acc ε κ = compC f ds ε acc κ := by rw [decide_eq_true h]; rfl
theorem l_var {A : Type} {i : Nat} {d : D} {ε : Ev} {κ : D → Option A}: dL (.var i) d ε κ = kO (look ε i) κ := rfl
theorem l_non {A : Type} {d : D} {ε : Ev} {κ : D → Option A}: dL .non d ε κ = κ d := rfl
theorem l_bl {A : Type} {b : Bool} {d : D} {ε : Ev} {κ : D → Option A}: dL (.bl b) d ε κ = κ d := rfl
theorem l_int {A : Type} {b : Int} {d : D} {ε : Ev} {κ : D → Option A}: dL (.int b) d ε κ = κ d := rfl
theorem l_str {A : Type} {b : Str} {d : D} {ε : Ev} {κ : D → Option A}: dL (.str b) d ε κ = κ d := rfl
theorem l_gint {A : Type} {x : Str} {b : Int} {d : D} {ε : Ev} {κ : D → Option A}: dL (.gint x b) d ε κ = κ d := rfl
theorem l_p1 {A : Type} {p : P1} {a : C} {d : D} {ε : Ev} {κ : D → Option A}: dL (.p1 p a) d ε κ = κ d := rfl
theorem l_p2 {A : Type} {p : P2} {a b : C} {d : D} {ε : Ev} {κ : D → Option A}: dL (.p2 p a b) d ε κ = κ d := rfl
theorem l_slc {A : Type} {a : C} {lo hi : CO} {d : D} {ε : Ev} {κ : D → Option A}: dL (.slc a lo hi) d ε κ = κ d := rfl
theorem l_and {A : Type} {a b : C} {d : D} {ε : Ev} {κ : D → Option A}: dL (.and_ a b) d ε κ = κ d := rfl
theorem l_or {A : Type} {a b : C} {d : D} {ε : Ev} {κ : D → Option A}: dL (.or_ a b) d ε κ = κ d := rfl
theorem l_orv {A : Type} {a b : C} {d : D} {ε : Ev} {κ : D → Option A}: dL (.orv a b) d ε κ = κ d := rfl
theorem l_ife {A : Type} {t a b : C} {d : D} {ε : Ev} {κ : D → Option A}: dL (.ife t a b) d ε κ = κ d := rfl
theorem l_chain {A : Type} {p q : P2} {a b c : C} {d : D} {ε : Ev} {κ : D → Option A}: dL (.chain p q a b c) d ε κ = κ d := rfl
theorem l_lst {A : Type} {as : Cs} {d : D} {ε : Ev} {κ : D → Option A}: dL (.lst as) d ε κ = κ d := rfl
theorem l_tup {A : Type} {as : Cs} {d : D} {ε : Ev} {κ : D → Option A}: dL (.tup as) d ε κ = κ d := rfl
theorem l_call {A : Type} {f : Nat} {as : Cs} {d : D} {ε : Ev} {κ : D → Option A}: dL (.call f as) d ε κ = κ d := rfl
theorem l_comp {A : Type} {own : List Nat} {g : Tg} {it : CI} {t e : C} {d : D} {ε : Ev} {κ : D → Option A}: dL (.comp own g it t e) d ε κ = κ d := rfl
theorem ls_nil {A : Type} {ε : Ev} {κ : List D → Option A}: dLs .nil [] ε κ = κ [] := rfl
theorem Kls2_eq {A : Type} {d : D} {κ : List D → Option A} {ds : List D}: Kls2 d κ ds = κ (d :: ds) := rfl
theorem Kls1_eq {A : Type} {r : Cs} {ds : List D} {ε : Ev} {κ : List D → Option A} {d : D}: Kls1 r ds ε κ d = dLs r ds ε (Kls2 d κ) := rfl
theorem ls_cons {A : Type} {a : C} {r : Cs} {d : D} {ds : List D} {ε : Ev} {κ : List D → Option A}: dLs (.cons a r) (d :: ds) ε κ = dL a d ε (Kls1 r ds ε κ) := rfl
theorem f_nx {A : Type} {J : List Nat} {f : Ev → Option A} {κ : R → Option A} {ε : Ev}: kF J f κ (.nx ε) = f ε := rfl
theorem f_ct {A : Type} {J : List Nat} {f : Ev → Option A} {κ : R → Option A} {ε : Ev}: kF J f κ (.ct ε) = f ε := rfl
theorem f_bk {A : Type} {J : List Nat} {f : Ev → Option A} {κ : R → Option A} {ε : Ev}: kF J f κ (.bk ε) = hE (wipeE ε J) κ := rfl
theorem f_rt {A : Type} {J : List Nat} {f : Ev → Option A} {κ : R → Option A} {d : D} {ε : Ev}: kF J f κ (.rt d ε) = κ (.rt d ε) := rfl
theorem fi_rt {ms : List Md} {d : D} {ε : Ev}: fin ms (.rt d ε) = (outsOf ε ms 0).map fun os => (d, os) := rfl
theorem fi_nx {ms : List Md} {ε : Ev}: fin ms (.nx ε) = (outsOf ε ms 0).map fun os => (D.non, os) := rfl
theorem O_some {A : Type} {α : Type} {d : α} {κ : α → Option A}: kO (some d) κ = κ d := rfl
theorem E_eq {A : Type} {ε : Ev} {κ : R → Option A}: hE ε κ = κ (.nx ε) := rfl
theorem P_eq {A : Type} {ε : Ev} {κ : Ev → Option A}: hP ε κ = κ ε := rfl
theorem V_eq {A : Type} {d : D} {ε : Ev} {κ : D → Ev → Option A}: hV d ε κ = κ d ε := rfl
theorem if_t {A : Type} {a b : Option A}: kif true a b = a := rfl
theorem if_f {A : Type} {a b : Option A}: kif false a b = b := rfl
theorem lim_t {A : Type} {d : D} {ε : Ev} {κ : D → Ev → Option A}: hLim true d ε κ = κ d ε := rfl
theorem and_t {A : Type} {T : Tb} {Φ : Ph} {b : C} {ε : Ev} {κ : D → Ev → Option A}: hAnd true T Φ b ε κ = dE T Φ b ε κ := rfl
theorem and_f {A : Type} {T : Tb} {Φ : Ph} {b : C} {ε : Ev} {κ : D → Ev → Option A}: hAnd false T Φ b ε κ = κ (.bl false) ε := rfl
theorem or_t {A : Type} {T : Tb} {Φ : Ph} {b : C} {ε : Ev} {κ : D → Ev → Option A}: hOr true T Φ b ε κ = κ (.bl true) ε := rfl
theorem or_f {A : Type} {T : Tb} {Φ : Ph} {b : C} {ε : Ev} {κ : D → Ev → Option A}: hOr false T Φ b ε κ = dE T Φ b ε κ := rfl
theorem orv_t {A : Type} {T : Tb} {Φ : Ph} {d : D} {b : C} {ε : Ev} {κ : D → Ev → Option A}: hOrv true T Φ d b ε κ = κ d ε := rfl
theorem orv_f {A : Type} {T : Tb} {Φ : Ph} {d : D} {b : C} {ε : Ev} {κ : D → Ev → Option A}: hOrv false T Φ d b ε κ = dE T Φ b ε κ := rfl
theorem ife_t {A : Type} {T : Tb} {Φ : Ph} {a b : C} {ε : Ev} {κ : D → Ev → Option A}: hIfe true T Φ a b ε κ = dE T Φ a ε κ := rfl
theorem ife_f {A : Type} {T : Tb} {Φ : Ph} {a b : C} {ε : Ev} {κ : D → Ev → Option A}: hIfe false T Φ a b ε κ = dE T Φ b ε κ := rfl
theorem tand_t {A : Type} {T : Tb} {Φ : Ph} {b : C} {ε : Ev} {κ : Bool → Ev → Option A}: hTand true T Φ b ε κ = dT T Φ b ε κ := rfl
theorem tand_f {A : Type} {T : Tb} {Φ : Ph} {b : C} {ε : Ev} {κ : Bool → Ev → Option A}: hTand false T Φ b ε κ = κ false ε := rfl
theorem tor_t {A : Type} {T : Tb} {Φ : Ph} {b : C} {ε : Ev} {κ : Bool → Ev → Option A}: hTor true T Φ b ε κ = κ true ε := rfl
theorem tor_f {A : Type} {T : Tb} {Φ : Ph} {b : C} {ε : Ev} {κ : Bool → Ev → Option A}: hTor false T Φ b ε κ = dT T Φ b ε κ := rfl
theorem ifs_t {A : Type} {T : Tb} {Φ : Ph} {a b : Ss} {ε : Ev} {κ : R → Option A}: hIfs true T Φ a b ε κ = dSs T Φ a ε κ := rfl
theorem ifs_f {A : Type} {T : Tb} {Φ : Ph} {a b : Ss} {ε : Ev} {κ : R → Option A}: hIfs false T Φ a b ε κ = dSs T Φ b ε κ := rfl
theorem cw_t {A : Type} {T : Tb} {Φ : Ph} {e : C} {ε : Ev} {ky : D → Ev → Option A} {kn : Ev → Option A}: hCw true T Φ e ε ky kn = dE T Φ e ε ky := rfl
theorem cw_f {A : Type} {T : Tb} {Φ : Ph} {e : C} {ε : Ev} {ky : D → Ev → Option A} {kn : Ev → Option A}: hCw false T Φ e ε ky kn = kn ε := rfl
theorem rng_t {A : Type} {lo n : Int} {ε : Ev} {κ : List D → Ev → Option A}: hRng true lo n ε κ = κ (rngD lo n.toNat) ε := rfl
theorem whl_t {A : Type} {f : Ev → (R → Option A) → Option A} {J : List Nat} {K : Ev → Option A} {ε : Ev} {κ : R → Option A}: hWhl true f J K ε κ = f ε (kF J K κ) := rfl
theorem whl_f {A : Type} {f : Ev → (R → Option A) → Option A} {J : List Nat} {K : Ev → Option A} {ε : Ev} {κ : R → Option A}: hWhl false f J K ε κ = hE (wipeE ε J) κ := rfl
theorem dp_t {A : Type} {i : Nat} {k : Int} {d : D} {xs : List (Key × D)} {ε : Ev} {κ : R → Option A}: hDp true i k d xs ε κ = hE (putI ε i (.dct (putKD xs (.inl k) d))) κ := rfl
theorem app_t {A : Type} {i : Nat} {xs : List D} {ε : Ev} {κ : R → Option A}: hApp true i xs ε κ = hE (putI ε i (.lst xs)) κ := rfl
theorem zip_l {A : Type} {xs ys : List D} {ε : Ev} {κ : List D → Ev → Option A}: hZip (.lst xs) (.lst ys) ε κ = κ (zipD xs ys) ε := rfl
theorem Sq_lst {A : Type} {b : List D} {ε : Ev} {κ : List D → Ev → Option A}: hSq (.lst b) ε κ = κ b ε := rfl
theorem Sq_tup {A : Type} {b : List D} {ε : Ev} {κ : List D → Ev → Option A}: hSq (.tup b) ε κ = κ b ε := rfl
theorem Sq_scr {A : Type} {b : List Int} {ε : Ev} {κ : List D → Ev → Option A}: hSq (.scr b) ε κ = κ (b.map D.int) ε := rfl
theorem M_nil {A : Type} {ds : List D} {x : Option (D × List D)} {as : Cs} {ε : Ev} {κ : D → Ev → Option A} {ms0 : List Md}: hM [] ds ms0 x as ε κ = hC x ms0 as ε κ := by cases ds <;> rfl
theorem M_S {A : Type} {d : D} {ds : List D} {x : Option (D × List D)} {as : Cs} {ε : Ev} {κ : D → Ev → Option A} {ms ms0 : List Md}: hM (.S :: ms) (d :: ds) ms0 x as ε κ = hM ms ds ms0 x as ε κ := rfl
theorem M_B {A : Type} {d : D} {ds : List D} {x : Option (D × List D)} {as : Cs} {ε : Ev} {κ : D → Ev → Option A} {ms ms0 : List Md}: hM (.B :: ms) (d :: ds) ms0 x as ε κ = hM ms ds ms0 x as ε κ := rfl
theorem M_O {A : Type} {d : List D} {ds : List D} {x : Option (D × List D)} {as : Cs} {ε : Ev} {κ : D → Ev → Option A} {ms ms0 : List Md}: hM (.O :: ms) (.lst d :: ds) ms0 x as ε κ = hM ms ds ms0 x as ε κ := rfl
theorem C_some {A : Type} {r : D} {os : List D} {ms : List Md} {as : Cs} {ε : Ev} {κ : D → Ev → Option A}: hC (some (r, os)) ms as ε κ = hOut ms as os ε r κ := rfl
theorem Out_nil {A : Type} {ε : Ev} {r : D} {κ : D → Ev → Option A}: hOut [] .nil [] ε r κ = hV r ε κ := rfl
theorem Out_S {A : Type} {ms : List Md} {a : VS.C} {as : Cs} {os : List D} {ε : Ev} {r : D} {κ : D → Ev → Option A}: hOut (.S :: ms) (.cons a as) os ε r κ = hOut ms as os ε r κ := rfl
theorem Out_B {A : Type} {ms : List Md} {a : VS.C} {as : Cs} {os : List D} {ε : Ev} {r : D} {κ : D → Ev → Option A}: hOut (.B :: ms) (.cons a as) os ε r κ = hOut ms as os ε r κ := rfl
theorem Out_O {A : Type} {i : Nat} {d : D} {ms : List Md} {as : Cs} {os : List D} {ε : Ev} {r : D} {κ : D → Ev → Option A}: hOut (.O :: ms) (.cons (.var i) as) (d :: os) ε r κ = hOut ms as os (putI ε i d) r κ := rfl
theorem Tg_nm {A : Type} {i : Nat} {d : D} {ε : Ev} {κ : Ev → Option A}: dTg (.nm i) d ε κ = hP (putI ε i d) κ := rfl
theorem Ktg1_eq {A : Type} {h : Tg} {y : D} {κ : Ev → Option A} {ε : Ev}: Ktg1 h y κ ε = dTg h y ε κ := rfl
theorem Ktg2_eq {A : Type} {h l : Tg} {y z : D} {κ : Ev → Option A} {ε : Ev}: Ktg2 h l y z κ ε = dTg h y ε (Ktg1 l z κ) := rfl
theorem Ktg3_eq {A : Type} {h l q : Tg} {y z w : D} {κ : Ev → Option A} {ε : Ev}: Ktg3 h l q y z w κ ε = dTg h y ε (Ktg2 l q z w κ) := rfl
theorem Ktg4_eq {A : Type} {h l q u : Tg} {y z w v : D} {κ : Ev → Option A} {ε : Ev}: Ktg4 h l q u y z w v κ ε = dTg h y ε (Ktg3 l q u z w v κ) := rfl
theorem Tg_tp {A : Type} {g h : Tg} {x y : D} {ε : Ev} {κ : Ev → Option A}: dTg (.tp g h) (.tup [x, y]) ε κ = dTg g x ε (Ktg1 h y κ) := by simp only [dTg, tgD]; cases tgD g x ε <;> rfl
theorem Tg_tp3 {A : Type} {g h l : Tg} {x y z : D} {ε : Ev} {κ : Ev → Option A}: dTg (.tp3 g h l) (.tup [x, y, z]) ε κ = dTg g x ε (Ktg2 h l y z κ) := by
  simp only [dTg, tgD]
  cases tgD g x ε with
  | none => rfl
  | some ε1 => simp only [Option.bind_some, Ktg2, dTg]; cases tgD h y ε1 <;> rfl
theorem Tg_tp4 {A : Type} {g h l q : Tg} {x y z w : D} {ε : Ev} {κ : Ev → Option A}: dTg (.tp4 g h l q) (.tup [x, y, z, w]) ε κ = dTg g x ε (Ktg3 h l q y z w κ) := by simp only [dTg, tgD, Option.bind_assoc]; rfl
theorem Tg_tp5 {A : Type} {g h l q u : Tg} {x y z w v : D} {ε : Ev} {κ : Ev → Option A}: dTg (.tp5 g h l q u) (.tup [x, y, z, w, v]) ε κ = dTg g x ε (Ktg4 h l q u y z w v κ) := by simp only [dTg, tgD, Option.bind_assoc]; rfl
theorem T_bl {A : Type} {b : Bool} {ε : Ev} {κ : Bool → Ev → Option A}: hT (.bl b) ε κ = κ b ε := rfl
theorem T_int {A : Type} {b : Int} {ε : Ev} {κ : Bool → Ev → Option A}: hT (.int b) ε κ = κ (b != 0) ε := rfl
theorem T_non {A : Type} {ε : Ev} {κ : Bool → Ev → Option A}: hT .non ε κ = κ false ε := rfl
theorem T_lst {A : Type} {b : List D} {ε : Ev} {κ : Bool → Ev → Option A}: hT (.lst b) ε κ = κ (!b.isEmpty) ε := rfl
theorem T_tup {A : Type} {b : List D} {ε : Ev} {κ : Bool → Ev → Option A}: hT (.tup b) ε κ = κ (!b.isEmpty) ε := rfl
theorem look_0 {d : D} {r : Ev}: look (some d :: r) 0 = some d := rfl
theorem look_S {x : Option D} {r : Ev} {n : Nat}: look (x :: r) (n + 1) = look r n := by simp [look]
theorem putI_0 {x : Option D} {r : Ev} {d : D}: putI (x :: r) 0 d = some d :: r := rfl
theorem putI_S {x : Option D} {r : Ev} {n : Nat} {d : D}: putI (x :: r) (n + 1) d = x :: putI r n d := rfl
theorem wipe_nil {ε : Ev}: wipeE ε [] = ε := rfl
theorem wipe_cons {ε : Ev} {v : Nat} {vs : List Nat}: wipeE ε (v :: vs) = setN (wipeE ε vs) v none := rfl
theorem set_0 {x y : Option D} {r : Ev}: setN (x :: r) 0 y = y :: r := rfl
theorem set_S {x y : Option D} {r : Ev} {n : Nat}: setN (x :: r) (n + 1) y = x :: setN r n y := rfl
theorem back_nil {ε ε1 : Ev}: backE ε ε1 [] = ε1 := rfl
theorem back_cons {ε ε1 : Ev} {v : Nat} {vs : List Nat}: backE ε ε1 (v :: vs) = setN (backE ε ε1 vs) v (atE ε v) := rfl
theorem atE_0 {x : Option D} {r : Ev}: atE (x :: r) 0 = x := rfl
theorem atE_S {x : Option D} {r : Ev} {n : Nat}: atE (x :: r) (n + 1) = atE r n := by simp [atE]
theorem putA_nil {ε : Ev}: putAll ε [] = ε := rfl
theorem putA_cons {ε : Ev} {i : Nat} {d : D} {r : List (Nat × D)}: putAll ε ((i, d) :: r) = putAll (putI ε i d) r := rfl
theorem outs_nil {ε : Ev} {i : Nat}: outsOf ε [] i = some [] := rfl
theorem outs_S {ε : Ev} {ms : List Md} {i : Nat}: outsOf ε (.S :: ms) i = outsOf ε ms (i + 1) := rfl
theorem outs_B {ε : Ev} {ms : List Md} {i : Nat}: outsOf ε (.B :: ms) i = outsOf ε ms (i + 1) := rfl
theorem outs_O {ε : Ev} {ms : List Md} {i : Nat}: outsOf ε (.O :: ms) i = oCons (look ε i) (outsOf ε ms (i + 1)) := by
  simp only [outsOf, oCons]
  all_goals (rcases look ε i with _ | _ <;> rcases outsOf ε ms (i + 1) with _ | _ <;> rfl)
theorem oCons_ss {d : D} {r : List D}: oCons (some d) (some r) = some (d :: r) := rfl
theorem k_len {A : Type} {xs : List D} {ε : Ev} {κ : D → Ev → Option A}: h1 .len (.lst xs) ε κ = κ (.int xs.length) ε := rfl
theorem k_lenT {A : Type} {xs : List D} {ε : Ev} {κ : D → Ev → Option A}: h1 .len (.tup xs) ε κ = κ (.int xs.length) ε := rfl
theorem k_lenS {A : Type} {xs : List Int} {ε : Ev} {κ : D → Ev → Option A}: h1 .len (.scr xs) ε κ = κ (.int xs.length) ε := rfl
theorem k_int {A : Type} {i : Int} {ε : Ev} {κ : D → Ev → Option A}: h1 .int_ (.int i) ε κ = κ (.int i) ε := rfl
theorem k_intB {A : Type} {b : Bool} {ε : Ev} {κ : D → Ev → Option A}: h1 .int_ (.bl b) ε κ = κ (.int (if b = true then 1 else 0)) ε := rfl
theorem k_neg {A : Type} {i : Int} {ε : Ev} {κ : D → Ev → Option A}: h1 .neg (.int i) ε κ = κ (.int (-i)) ε := rfl
theorem k_not {A : Type} {b : Bool} {ε : Ev} {κ : D → Ev → Option A}: h1 .not_ (.bl b) ε κ = κ (.bl (!b)) ε := rfl
theorem k_isN {A : Type} {d : D} {ε : Ev} {κ : D → Ev → Option A}: h1 .isN d ε κ = κ (.bl (isNonD d)) ε := rfl
theorem k_notN {A : Type} {d : D} {ε : Ev} {κ : D → Ev → Option A}: h1 .notN d ε κ = κ (.bl (!isNonD d)) ε := rfl
theorem k_isTr {A : Type} {b : Bool} {ε : Ev} {κ : D → Ev → Option A}: h1 .isTrue_ (.bl b) ε κ = κ (.bl b) ε := rfl
theorem k_isFa {A : Type} {b : Bool} {ε : Ev} {κ : D → Ev → Option A}: h1 .isFalse_ (.bl b) ε κ = κ (.bl (!b)) ε := rfl
theorem k_ntTr {A : Type} {b : Bool} {ε : Ev} {κ : D → Ev → Option A}: h1 .notTrue_ (.bl b) ε κ = κ (.bl (!b)) ε := rfl
theorem k_ntFa {A : Type} {b : Bool} {ε : Ev} {κ : D → Ev → Option A}: h1 .notFalse_ (.bl b) ε κ = κ (.bl b) ε := rfl
theorem k_bool {A : Type} {xs : List D} {ε : Ev} {κ : D → Ev → Option A}: h1 .bool_ (.lst xs) ε κ = κ (.bl (!xs.isEmpty)) ε := rfl
theorem k_dictOf {A : Type} {xs : List (Key × D)} {ε : Ev} {κ : D → Ev → Option A}: h1 .dictOf (.dct xs) ε κ = κ (.dct xs) ε := rfl
theorem k_mkD {A : Type} {xs : List D} {ε : Ev} {κ : D → Ev → Option A}: h1 .mkD (.lst xs) ε κ = hMk (mkDL xs) ε κ := by simp only [h1, op1, hMk]; cases mkDL xs <;> rfl
theorem mk_some {A : Type} {r : List (Key × D)} {ε : Ev} {κ : D → Ev → Option A}: hMk (some r) ε κ = κ (.dct r) ε := rfl
theorem k_sorted {A : Type} {xs : List Int} {ε : Ev} {κ : D → Ev → Option A}: h1 .sorted_ (.lst (xs.map D.int)) ε κ = κ (.lst ((isort xs).map D.int)) ε := by simp only [h1, op1, allI_map]; rfl
theorem k_sorted0 {A : Type}  {ε : Ev} {κ : D → Ev → Option A}: h1 .sorted_ (.lst []) ε κ = κ (.lst []) ε := rfl
theorem KB_eq {A : Type} {ε : Ev} {κ : D → Ev → Option A} {b : Bool}: KB ε κ b = κ (.bl b) ε := rfl
theorem KnB_eq {A : Type} {ε : Ev} {κ : D → Ev → Option A} {b : Bool}: KnB ε κ b = κ (.bl (!b)) ε := rfl
theorem k_isT {A : Type} {t : Ty} {d : D} {ε : Ev} {κ : D → Ev → Option A}: h1 (.isT t) d ε κ = kO (isTy d t) (KB ε κ) := by simp only [h1, op1, kO]; cases isTy d t <;> rfl
theorem k_repr {A : Type} {d : D} {ε : Ev} {κ : D → Ev → Option A}: h1 .repr_ d ε κ = hLim (okRepr d) (.str (rp d)) ε κ := by simp only [h1, op1, hLim]; split <;> rfl
theorem k_listL {A : Type} {xs : List D} {ε : Ev} {κ : D → Ev → Option A}: h1 .listOf (.lst xs) ε κ = κ (.lst xs) ε := rfl
theorem k_listT {A : Type} {xs : List D} {ε : Ev} {κ : D → Ev → Option A}: h1 .listOf (.tup xs) ε κ = κ (.lst xs) ε := rfl
theorem k_listS {A : Type} {xs : List Int} {ε : Ev} {κ : D → Ev → Option A}: h1 .listOf (.scr xs) ε κ = κ (.lst (xs.map D.int)) ε := rfl
theorem k_all {A : Type} {β : Type} {xs : List β} {p : β → Bool} {ε : Ev} {κ : D → Ev → Option A}: h1 .all_ (.lst (xs.map fun x => .bl (p x))) ε κ = κ (.bl (xs.all p)) ε := by simp only [h1, op1, allB_map]; simp
theorem k_any {A : Type} {β : Type} {xs : List β} {p : β → Bool} {ε : Ev} {κ : D → Ev → Option A}: h1 .any_ (.lst (xs.map fun x => .bl (p x))) ε κ = κ (.bl (xs.any p)) ε := by simp only [h1, op1, allB_map]; simp
theorem k_all0 {A : Type}  {ε : Ev} {κ : D → Ev → Option A}: h1 .all_ (.lst []) ε κ = κ (.bl true) ε := rfl
theorem k_any0 {A : Type}  {ε : Ev} {κ : D → Ev → Option A}: h1 .any_ (.lst []) ε κ = κ (.bl false) ε := rfl
theorem k_allB {A : Type} {xs : List Bool} {ε : Ev} {κ : D → Ev → Option A}: h1 .all_ (.lst (xs.map D.bl)) ε κ = κ (.bl (xs.all id)) ε := by
  have : allB (xs.map D.bl) = some xs := by
    have := allB_map (p := id) (xs := xs)
    simpa using this
  simp only [h1, op1, this]; rfl
theorem k_anyB {A : Type} {xs : List Bool} {ε : Ev} {κ : D → Ev → Option A}: h1 .any_ (.lst (xs.map D.bl)) ε κ = κ (.bl (xs.any id)) ε := by
  have : allB (xs.map D.bl) = some xs := by
    have := allB_map (p := id) (xs := xs)
    simpa using this
  simp only [h1, op1, this]; rfl
theorem KallC_bl {A : Type} {b : Bool} {κ : D → Ev → Option A} {c : Bool} {ε : Ev}: KallC b κ (.bl c) ε = κ (.bl (b && c)) ε := rfl
theorem KanyC_bl {A : Type} {b : Bool} {κ : D → Ev → Option A} {c : Bool} {ε : Ev}: KanyC b κ (.bl c) ε = κ (.bl (b || c)) ε := rfl
theorem k_allC {A : Type} {b : Bool} {xs : List D} {ε : Ev} {κ : D → Ev → Option A}: h1 .all_ (.lst (.bl b :: xs)) ε κ = h1 .all_ (.lst xs) ε (KallC b κ) := by simp only [h1, op1, allB]; cases allB xs <;> rfl
theorem k_anyC {A : Type} {b : Bool} {xs : List D} {ε : Ev} {κ : D → Ev → Option A}: h1 .any_ (.lst (.bl b :: xs)) ε κ = h1 .any_ (.lst xs) ε (KanyC b κ) := by simp only [h1, op1, allB]; cases allB xs <;> rfl
theorem k_abs {A : Type} {i : Int} {ε : Ev} {κ : D → Ev → Option A}: h1 .abs_ (.int i) ε κ = κ (.int (if i < 0 then -i else i)) ε := rfl
theorem k_maxL {A : Type} {i : Int} {xs : List Int} {ε : Ev} {κ : D → Ev → Option A}: h1 .maxL (.lst (.int i :: xs.map D.int)) ε κ = κ (.int (maxI i xs)) ε := by simp only [h1, op1, allI, allI_map]; rfl
theorem k_minL {A : Type} {i : Int} {xs : List Int} {ε : Ev} {κ : D → Ev → Option A}: h1 .minL (.lst (.int i :: xs.map D.int)) ε κ = κ (.int (minI i xs)) ε := by simp only [h1, op1, allI, allI_map]; rfl
theorem k_sum {A : Type} {xs : List Int} {ε : Ev} {κ : D → Ev → Option A}: h1 .sum_ (.lst (xs.map D.int)) ε κ = κ (.int xs.sum) ε := by simp only [h1, op1, allI_map]; rfl
theorem k_add {A : Type} {i j : Int} {ε : Ev} {κ : D → Ev → Option A}: h2 .add (.int i) (.int j) ε κ = κ (.int (i + j)) ε := rfl
theorem k_sub {A : Type} {i j : Int} {ε : Ev} {κ : D → Ev → Option A}: h2 .sub (.int i) (.int j) ε κ = κ (.int (i - j)) ε := rfl
theorem k_lt {A : Type} {i j : Int} {ε : Ev} {κ : D → Ev → Option A}: h2 .lt (.int i) (.int j) ε κ = κ (.bl (decide (i < j))) ε := rfl
theorem k_le {A : Type} {i j : Int} {ε : Ev} {κ : D → Ev → Option A}: h2 .le (.int i) (.int j) ε κ = κ (.bl (decide (i ≤ j))) ε := rfl
theorem k_gt {A : Type} {i j : Int} {ε : Ev} {κ : D → Ev → Option A}: h2 .gt (.int i) (.int j) ε κ = κ (.bl (decide (j < i))) ε := rfl
theorem k_ge {A : Type} {i j : Int} {ε : Ev} {κ : D → Ev → Option A}: h2 .ge (.int i) (.int j) ε κ = κ (.bl (decide (j ≤ i))) ε := rfl
theorem k_max {A : Type} {i j : Int} {ε : Ev} {κ : D → Ev → Option A}: h2 .max2 (.int i) (.int j) ε κ = κ (.int (max i j)) ε := by
  have : (if j > i then j else i) = max i j := by omega
  simp only [h2, op2, this]; rfl
theorem k_min {A : Type} {i j : Int} {ε : Ev} {κ : D → Ev → Option A}: h2 .min2 (.int i) (.int j) ε κ = κ (.int (min i j)) ε := by
  have : (if j < i then j else i) = min i j := by omega
  simp only [h2, op2, this]; rfl
theorem k_mulr {A : Type} {i j : Int} (h : -18446744073709551616 < j ∧ j < 18446744073709551616) {ε : Ev} {κ : D → Ev → Option A}: h2 .mul (.int i) (.int j) ε κ = κ (.int (i * j)) ε := by
  have : small64 j = true := decide_eq_true h
  simp only [h2, op2, this, Bool.or_true, if_pos]; rfl
theorem k_mull {A : Type} {i j : Int} (h : -18446744073709551616 < i ∧ i < 18446744073709551616) {ε : Ev} {κ : D → Ev → Option A}: h2 .mul (.int i) (.int j) ε κ = κ (.int (i * j)) ε := by
  have : small64 i = true := decide_eq_true h
  simp only [h2, op2, this, Bool.true_or, if_pos]; rfl
theorem k_fdiv {A : Type} {i j : Int} (h : 0 < j ∧ j < 1073741824) {ε : Ev} {κ : D → Ev → Option A}: h2 .fdiv (.int i) (.int j) ε κ = κ (.int (i / j)) ε := by simp only [h2, op2, decide_eq_true h, if_pos]; rfl
theorem k_mod {A : Type} {i j : Int} (h : 0 < j) {ε : Ev} {κ : D → Ev → Option A}: h2 .mod (.int i) (.int j) ε κ = κ (.int (i % j)) ε := by simp only [h2, op2, decide_eq_true h, if_pos]; rfl
theorem k_pow18 {A : Type}  {ε : Ev} {κ : D → Ev → Option A}: h2 .pow (.int 10) (.int 18) ε κ = κ (.int 1000000000000000000) ε := by
  have : op2 .pow (.int 10) (.int 18) = some (.int 1000000000000000000) := rfl
  simp only [h2, this]; rfl
theorem k_pow9 {A : Type}  {ε : Ev} {κ : D → Ev → Option A}: h2 .pow (.int 10) (.int 9) ε κ = κ (.int 1000000000) ε := by
  have : op2 .pow (.int 10) (.int 9) = some (.int 1000000000) := rfl
  simp only [h2, this]; rfl
theorem k_eq {A : Type} {d e : D} {ε : Ev} {κ : D → Ev → Option A}: h2 .eq d e ε κ = kO (eqP d e) (KB ε κ) := by simp only [h2, op2, kO]; cases eqP d e <;> rfl
theorem k_ne {A : Type} {d e : D} {ε : Ev} {κ : D → Ev → Option A}: h2 .ne d e ε κ = kO (eqP d e) (KnB ε κ) := by simp only [h2, op2, kO]; cases eqP d e <;> rfl
theorem k_idxD {A : Type} {xs : List (Key × D)} {i : Int} {ε : Ev} {κ : D → Ev → Option A}: h2 .idx (.dct xs) (.int i) ε κ = kO (getKD xs (.inl i)) (KR ε κ) := rfl
theorem k_idxL {A : Type} {xs : List D} {i : Int} {ε : Ev} {κ : D → Ev → Option A}: h2 .idx (.lst xs) (.int i) ε κ = kO (atI xs i) (KR ε κ) := rfl
theorem k_idxT {A : Type} {xs : List D} {i : Int} {ε : Ev} {κ : D → Ev → Option A}: h2 .idx (.tup xs) (.int i) ε κ = kO (atI xs i) (KR ε κ) := rfl
theorem k_idxS {A : Type} {xs : List Int} {i : Int} {ε : Ev} {κ : D → Ev → Option A}: h2 .idx (.scr xs) (.int i) ε κ = kO (atI (xs.map D.int) i) (KR ε κ) := rfl
theorem k_cat {A : Type} {xs ys : List D} {ε : Ev} {κ : D → Ev → Option A}: h2 .add (.lst xs) (.lst ys) ε κ = hLim (decide (xs.length + ys.length ≤ lim)) (.lst (xs ++ ys)) ε κ := by simp only [h2, op2, hLim, decide_eq_true_eq]; split <;> rfl
theorem k_rep {A : Type} {d : D} {j : Int} {ε : Ev} {κ : D → Ev → Option A}: h2 .mul (.lst [d]) (.int j) ε κ = hLim (decide (0 ≤ j ∧ j ≤ (lim : Int))) (.lst (List.replicate j.toNat d)) ε κ := by
  simp only [h2, op2, hLim, decide_eq_true_eq, List.length_singleton, Nat.one_mul]
  by_cases h : 0 ≤ j ∧ j ≤ (lim : Int)
  · rw [if_pos h, if_pos ⟨h.1, h.2, by omega⟩]
    have : (List.replicate j.toNat [d]).flatten = List.replicate j.toNat d := by
      generalize j.toNat = n
      induction n with
      | zero => rfl
      | succ n ih => rw [List.replicate_succ, List.flatten_cons, ih]; rfl
    rw [this]; rfl
  · rw [if_neg h, if_neg fun z => h ⟨z.1, z.2.1⟩]; rfl
theorem k_in {A : Type} {d : D} {xs : List D} {ε : Ev} {κ : D → Ev → Option A}: h2 .inn d (.lst xs) ε κ = kO (inP d xs) (KB ε κ) := by
  have : op2 .inn d (.lst xs) = if okEq d && okEq (.lst xs) then some (.bl (xs.any fun z => PyData.eqv (toP z) (toP d))) else none := by cases d <;> rfl
  simp only [h2, this, kO, inP]
  split <;> rfl
theorem k_nin {A : Type} {d : D} {xs : List D} {ε : Ev} {κ : D → Ev → Option A}: h2 .nin d (.lst xs) ε κ = kO (inP d xs) (KnB ε κ) := by
  have : op2 .nin d (.lst xs) = if okEq d && okEq (.lst xs) then some (.bl (!xs.any fun z => PyData.eqv (toP z) (toP d))) else none := by cases d <;> rfl
  simp only [h2, this, kO, inP]
  split <;> rfl
theorem A_int {A : Type} {i j : Int} {n : Nat} {ε : Ev} {κ : R → Option A}: hA .add (.int i) (.int j) n ε κ = hE (putI ε n (.int (i + j))) κ := rfl
theorem A_sub {A : Type} {i j : Int} {n : Nat} {ε : Ev} {κ : R → Option A}: hA .sub (.int i) (.int j) n ε κ = hE (putI ε n (.int (i - j))) κ := rfl
theorem at_0 {α : Type} {a : α} {r : List α}: atI (a :: r) 0 = some a := atI_nat (n := 0) rfl
theorem at_1 {α : Type} {a b : α} {r : List α}: atI (a :: b :: r) 1 = some b := atI_nat (n := 1) rfl
theorem at_2 {α : Type} {a b c : α} {r : List α}: atI (a :: b :: c :: r) 2 = some c := atI_nat (n := 2) rfl
theorem at_3 {α : Type} {a b c d : α} {r : List α}: atI (a :: b :: c :: d :: r) 3 = some d := atI_nat (n := 3) rfl
theorem at_4 {α : Type} {a b c d e : α} {r : List α}: atI (a :: b :: c :: d :: e :: r) 4 = some e := atI_nat (n := 4) rfl
theorem at_5 {α : Type} {a b c d e f : α} {r : List α}: atI (a :: b :: c :: d :: e :: f :: r) 5 = some f := atI_nat (n := 5) rfl
theorem at_6 {α : Type} {a b c d e f g : α} {r : List α}: atI (a :: b :: c :: d :: e :: f :: g :: r) 6 = some g := atI_nat (n := 6) rfl
theorem at_7 {α : Type} {a b c d e f g h : α} {r : List α}: atI (a :: b :: c :: d :: e :: f :: g :: h :: r) 7 = some h := atI_nat (n := 7) rfl
theorem at_map {α β : Type} [Inhabited α] {f : α → β} {xs : List α} {i : Int} (h0 : 0 ≤ i) (h1 : i < xs.length): atI (xs.map f) i = some (f (nth xs i)) := atI_map_nth h0 h1
theorem at_last {α : Type} {xs : List α} {x : α}: atI (xs ++ [x]) (-1) = some x := atI_last
theorem at_last1 {α : Type} {x : α}: atI [x] (-1) = some x := rfl
theorem ix_in {n : Nat} {i : Int} (h0 : 0 ≤ i) (h1 : i < n): ixN n i = some i.toNat := by simp [ixN, h0, h1]
theorem slc_lst {xs : List D} {lo hi : Option Int}: slcD (.lst xs) lo hi = some (.lst (cutD xs lo hi)) := rfl
theorem cut_map {α β : Type} {f : α → β} {xs : List α} {lo hi : Option Int}: cutD (xs.map f) lo hi = (cutD xs lo hi).map f := cutD_map
theorem set_map {α : Type} {f : α → D} {xs : List α} {i : Nat} {x : α}: (xs.map f).set i (f x) = (xs.set i x).map f := (List.map_set ..).symm
theorem set_mapI {xs : List Int} {i : Nat} {x : Int}: (xs.map D.int).set i (.int x) = (xs.set i x).map D.int := (List.map_set ..).symm
theorem app_mapI {xs : List Int} {x : Int}: xs.map D.int ++ [.int x] = (xs ++ [x]).map D.int := by simp
theorem app_maps {α : Type} {f : α → D} {xs ys : List α}: xs.map f ++ ys.map f = (xs ++ ys).map f := (List.map_append ..).symm
theorem okR_lt {i : Int} (h : -1000000 ≤ i ∧ i ≤ 1000000): okR i = true := decide_eq_true (by omega)
theorem rng_0 {n : Nat}: rngD 0 n = (List.range n).map fun i : Nat => D.int (i : Int) := rngD_range n
theorem rng_1 {n : Nat}: rngD 1 n = (List.range n).map fun i : Nat => D.int (1 + (i : Int)) := rngD_from 1 n
theorem zip_map {α β : Type} {f : α → D} {g : β → D} {xs : List α} {ys : List β}: zipD (xs.map f) (ys.map g) = (xs.zip ys).map fun p => D.tup [f p.1, g p.2] := zipD_map xs ys
theorem enum_map {α : Type} {f : α → D} {xs : List α}: enumD 0 (xs.map f) = (xs.zipIdx).map fun p => D.tup [.int (p.2 : Int), f p.1] := enumD_map xs 0
theorem iN_int {i : Int}: isNonD (.int i) = false := rfl
theorem iN_str {s : Str}: isNonD (.str s) = false := rfl
theorem iN_bl {b : Bool}: isNonD (.bl b) = false := rfl
theorem iN_lst {l : List D}: isNonD (.lst l) = false := rfl
theorem iN_tup {l : List D}: isNonD (.tup l) = false := rfl
theorem iN_non : isNonD .non = true := rfl
theorem ty_int_int {i : Int}: isTy (.int i) .int = some true := rfl
theorem ty_int_str {s : Str}: isTy (.str s) .int = some false := rfl
theorem ty_int_bl {b : Bool}: isTy (.bl b) .int = some true := rfl
theorem ty_int_lst {l : List D}: isTy (.lst l) .int = some false := rfl
theorem ty_int_tup {l : List D}: isTy (.tup l) .int = some false := rfl
theorem ty_int_non : isTy .non .int = some false := rfl
theorem ty_bool_int {i : Int}: isTy (.int i) .bool = some false := rfl
theorem ty_bool_str {s : Str}: isTy (.str s) .bool = some false := rfl
theorem ty_bool_bl {b : Bool}: isTy (.bl b) .bool = some true := rfl
theorem ty_bool_lst {l : List D}: isTy (.lst l) .bool = some false := rfl
theorem ty_bool_tup {l : List D}: isTy (.tup l) .bool = some false := rfl
theorem ty_bool_non : isTy .non .bool = some false := rfl
theorem ty_list_int {i : Int}: isTy (.int i) .list = some false := rfl
theorem ty_list_str {s : Str}: isTy (.str s) .list = some false := rfl
theorem ty_list_bl {b : Bool}: isTy (.bl b) .list = some false := rfl
theorem ty_list_lst {l : List D}: isTy (.lst l) .list = some true := rfl
theorem ty_list_tup {l : List D}: isTy (.tup l) .list = some false := rfl
theorem ty_list_non : isTy .non .list = some false := rfl
theorem ty_str_int {i : Int}: isTy (.int i) .str = some false := rfl
theorem ty_str_str {s : Str}: isTy (.str s) .str = some true := rfl
theorem ty_str_bl {b : Bool}: isTy (.bl b) .str = some false := rfl
theorem ty_str_lst {l : List D}: isTy (.lst l) .str = some false := rfl
theorem ty_str_tup {l : List D}: isTy (.tup l) .str = some false := rfl
theorem ty_str_non : isTy .non .str = some false := rfl
theorem ty_tup_int {i : Int}: isTy (.int i) .tup = some false := rfl
theorem ty_tup_str {s : Str}: isTy (.str s) .tup = some false := rfl
theorem ty_tup_bl {b : Bool}: isTy (.bl b) .tup = some false := rfl
theorem ty_tup_lst {l : List D}: isTy (.lst l) .tup = some false := rfl
theorem ty_tup_tup {l : List D}: isTy (.tup l) .tup = some true := rfl
theorem ty_tup_non : isTy .non .tup = some false := rfl
theorem ty_dict_int {i : Int}: isTy (.int i) .dict = some false := rfl
theorem ty_dict_str {s : Str}: isTy (.str s) .dict = some false := rfl
theorem ty_dict_bl {b : Bool}: isTy (.bl b) .dict = some false := rfl
theorem ty_dict_lst {l : List D}: isTy (.lst l) .dict = some false := rfl
theorem ty_dict_tup {l : List D}: isTy (.tup l) .dict = some false := rfl
theorem ty_dict_non : isTy .non .dict = some false := rfl
theorem eq_int {i j : Int}: eqP (.int i) (.int j) = some (decide (i = j)) := eqP_int
theorem eq_bl {i j : Bool}: eqP (.bl i) (.bl j) = some (decide (i = j)) := eqP_bl
theorem eq_non : eqP .non .non = some true := rfl
theorem eq_nonI {i : Int}: eqP .non (.int i) = some false := rfl
theorem eq_Inon {i : Int}: eqP (.int i) .non = some false := rfl
theorem eq_str {i j : Str}: eqP (.str i) (.str j) = some (decide (i = j)) := rfl
theorem eqs_amount_cell : (("amount" : Str) = ("cell" : Str)) = False := eq_false (by decide +kernel)
theorem eqs_amount_more : (("amount" : Str) = ("more" : Str)) = False := eq_false (by decide +kernel)
theorem eqs_amount_least : (("amount" : Str) = ("least" : Str)) = False := eq_false (by decide +kernel)
theorem eqs_amount_greatest : (("amount" : Str) = ("greatest" : Str)) = False := eq_false (by decide +kernel)
theorem eqs_amount_when : (("amount" : Str) = ("when" : Str)) = False := eq_false (by decide +kernel)
theorem eqs_amount_only : (("amount" : Str) = ("only" : Str)) = False := eq_false (by decide +kernel)
theorem eqs_amount_at_least : (("amount" : Str) = ("at_least" : Str)) = False := eq_false (by decide +kernel)
theorem eqs_amount_at_most : (("amount" : Str) = ("at_most" : Str)) = False := eq_false (by decide +kernel)
theorem eqs_cell_amount : (("cell" : Str) = ("amount" : Str)) = False := eq_false (by decide +kernel)
theorem eqs_cell_more : (("cell" : Str) = ("more" : Str)) = False := eq_false (by decide +kernel)
theorem eqs_cell_least : (("cell" : Str) = ("least" : Str)) = False := eq_false (by decide +kernel)
theorem eqs_cell_greatest : (("cell" : Str) = ("greatest" : Str)) = False := eq_false (by decide +kernel)
theorem eqs_cell_when : (("cell" : Str) = ("when" : Str)) = False := eq_false (by decide +kernel)
theorem eqs_cell_only : (("cell" : Str) = ("only" : Str)) = False := eq_false (by decide +kernel)
theorem eqs_cell_at_least : (("cell" : Str) = ("at_least" : Str)) = False := eq_false (by decide +kernel)
theorem eqs_cell_at_most : (("cell" : Str) = ("at_most" : Str)) = False := eq_false (by decide +kernel)
theorem eqs_more_amount : (("more" : Str) = ("amount" : Str)) = False := eq_false (by decide +kernel)
theorem eqs_more_cell : (("more" : Str) = ("cell" : Str)) = False := eq_false (by decide +kernel)
theorem eqs_more_least : (("more" : Str) = ("least" : Str)) = False := eq_false (by decide +kernel)
theorem eqs_more_greatest : (("more" : Str) = ("greatest" : Str)) = False := eq_false (by decide +kernel)
theorem eqs_more_when : (("more" : Str) = ("when" : Str)) = False := eq_false (by decide +kernel)
theorem eqs_more_only : (("more" : Str) = ("only" : Str)) = False := eq_false (by decide +kernel)
theorem eqs_more_at_least : (("more" : Str) = ("at_least" : Str)) = False := eq_false (by decide +kernel)
theorem eqs_more_at_most : (("more" : Str) = ("at_most" : Str)) = False := eq_false (by decide +kernel)
theorem eqs_least_amount : (("least" : Str) = ("amount" : Str)) = False := eq_false (by decide +kernel)
theorem eqs_least_cell : (("least" : Str) = ("cell" : Str)) = False := eq_false (by decide +kernel)
theorem eqs_least_more : (("least" : Str) = ("more" : Str)) = False := eq_false (by decide +kernel)
theorem eqs_least_greatest : (("least" : Str) = ("greatest" : Str)) = False := eq_false (by decide +kernel)
theorem eqs_least_when : (("least" : Str) = ("when" : Str)) = False := eq_false (by decide +kernel)
theorem eqs_least_only : (("least" : Str) = ("only" : Str)) = False := eq_false (by decide +kernel)
theorem eqs_least_at_least : (("least" : Str) = ("at_least" : Str)) = False := eq_false (by decide +kernel)
theorem eqs_least_at_most : (("least" : Str) = ("at_most" : Str)) = False := eq_false (by decide +kernel)
theorem eqs_greatest_amount : (("greatest" : Str) = ("amount" : Str)) = False := eq_false (by decide +kernel)
theorem eqs_greatest_cell : (("greatest" : Str) = ("cell" : Str)) = False := eq_false (by decide +kernel)
theorem eqs_greatest_more : (("greatest" : Str) = ("more" : Str)) = False := eq_false (by decide +kernel)
theorem eqs_greatest_least : (("greatest" : Str) = ("least" : Str)) = False := eq_false (by decide +kernel)
theorem eqs_greatest_when : (("greatest" : Str) = ("when" : Str)) = False := eq_false (by decide +kernel)
theorem eqs_greatest_only : (("greatest" : Str) = ("only" : Str)) = False := eq_false (by decide +kernel)
theorem eqs_greatest_at_least : (("greatest" : Str) = ("at_least" : Str)) = False := eq_false (by decide +kernel)
theorem eqs_greatest_at_most : (("greatest" : Str) = ("at_most" : Str)) = False := eq_false (by decide +kernel)
theorem eqs_when_amount : (("when" : Str) = ("amount" : Str)) = False := eq_false (by decide +kernel)
theorem eqs_when_cell : (("when" : Str) = ("cell" : Str)) = False := eq_false (by decide +kernel)
theorem eqs_when_more : (("when" : Str) = ("more" : Str)) = False := eq_false (by decide +kernel)
theorem eqs_when_least : (("when" : Str) = ("least" : Str)) = False := eq_false (by decide +kernel)
theorem eqs_when_greatest : (("when" : Str) = ("greatest" : Str)) = False := eq_false (by decide +kernel)
theorem eqs_when_only : (("when" : Str) = ("only" : Str)) = False := eq_false (by decide +kernel)
theorem eqs_when_at_least : (("when" : Str) = ("at_least" : Str)) = False := eq_false (by decide +kernel)
theorem eqs_when_at_most : (("when" : Str) = ("at_most" : Str)) = False := eq_false (by decide +kernel)
theorem eqs_only_amount : (("only" : Str) = ("amount" : Str)) = False := eq_false (by decide +kernel)
theorem eqs_only_cell : (("only" : Str) = ("cell" : Str)) = False := eq_false (by decide +kernel)
theorem eqs_only_more : (("only" : Str) = ("more" : Str)) = False := eq_false (by decide +kernel)
theorem eqs_only_least : (("only" : Str) = ("least" : Str)) = False := eq_false (by decide +kernel)
theorem eqs_only_greatest : (("only" : Str) = ("greatest" : Str)) = False := eq_false (by decide +kernel)
theorem eqs_only_when : (("only" : Str) = ("when" : Str)) = False := eq_false (by decide +kernel)
theorem eqs_only_at_least : (("only" : Str) = ("at_least" : Str)) = False := eq_false (by decide +kernel)
theorem eqs_only_at_most : (("only" : Str) = ("at_most" : Str)) = False := eq_false (by decide +kernel)
theorem eqs_at_least_amount : (("at_least" : Str) = ("amount" : Str)) = False := eq_false (by decide +kernel)
theorem eqs_at_least_cell : (("at_least" : Str) = ("cell" : Str)) = False := eq_false (by decide +kernel)
theorem eqs_at_least_more : (("at_least" : Str) = ("more" : Str)) = False := eq_false (by decide +kernel)
theorem eqs_at_least_least : (("at_least" : Str) = ("least" : Str)) = False := eq_false (by decide +kernel)
theorem eqs_at_least_greatest : (("at_least" : Str) = ("greatest" : Str)) = False := eq_false (by decide +kernel)
theorem eqs_at_least_when : (("at_least" : Str) = ("when" : Str)) = False := eq_false (by decide +kernel)
theorem eqs_at_least_only : (("at_least" : Str) = ("only" : Str)) = False := eq_false (by decide +kernel)
theorem eqs_at_least_at_most : (("at_least" : Str) = ("at_most" : Str)) = False := eq_false (by decide +kernel)
theorem eqs_at_most_amount : (("at_most" : Str) = ("amount" : Str)) = False := eq_false (by decide +kernel)
theorem eqs_at_most_cell : (("at_most" : Str) = ("cell" : Str)) = False := eq_false (by decide +kernel)
theorem eqs_at_most_more : (("at_most" : Str) = ("more" : Str)) = False := eq_false (by decide +kernel)
theorem eqs_at_most_least : (("at_most" : Str) = ("least" : Str)) = False := eq_false (by decide +kernel)
theorem eqs_at_most_greatest : (("at_most" : Str) = ("greatest" : Str)) = False := eq_false (by decide +kernel)
theorem eqs_at_most_when : (("at_most" : Str) = ("when" : Str)) = False := eq_false (by decide +kernel)
theorem eqs_at_most_only : (("at_most" : Str) = ("only" : Str)) = False := eq_false (by decide +kernel)
theorem eqs_at_most_at_least : (("at_most" : Str) = ("at_least" : Str)) = False := eq_false (by decide +kernel)
theorem in_lg_amount : inP (.str "amount") [.str "least", .str "greatest"] = some false := by decide +kernel
theorem in_lg_cell : inP (.str "cell") [.str "least", .str "greatest"] = some false := by decide +kernel
theorem in_lg_more : inP (.str "more") [.str "least", .str "greatest"] = some false := by decide +kernel
theorem in_lg_least : inP (.str "least") [.str "least", .str "greatest"] = some true := by decide +kernel
theorem in_lg_greatest : inP (.str "greatest") [.str "least", .str "greatest"] = some true := by decide +kernel
theorem in_lg_when : inP (.str "when") [.str "least", .str "greatest"] = some false := by decide +kernel
theorem in_lg_only : inP (.str "only") [.str "least", .str "greatest"] = some false := by decide +kernel
theorem in_lg_at_least : inP (.str "at_least") [.str "least", .str "greatest"] = some false := by decide +kernel
theorem in_lg_at_most : inP (.str "at_most") [.str "least", .str "greatest"] = some false := by decide +kernel
theorem in_ac_amount : inP (.str "amount") [.str "amount", .str "cell"] = some true := by decide +kernel
theorem in_ac_cell : inP (.str "cell") [.str "amount", .str "cell"] = some true := by decide +kernel
theorem in_ac_more : inP (.str "more") [.str "amount", .str "cell"] = some false := by decide +kernel
theorem in_ac_least : inP (.str "least") [.str "amount", .str "cell"] = some false := by decide +kernel
theorem in_ac_greatest : inP (.str "greatest") [.str "amount", .str "cell"] = some false := by decide +kernel
theorem in_ac_when : inP (.str "when") [.str "amount", .str "cell"] = some false := by decide +kernel
theorem in_ac_only : inP (.str "only") [.str "amount", .str "cell"] = some false := by decide +kernel
theorem in_ac_at_least : inP (.str "at_least") [.str "amount", .str "cell"] = some false := by decide +kernel
theorem in_ac_at_most : inP (.str "at_most") [.str "amount", .str "cell"] = some false := by decide +kernel
theorem in_la_amount : inP (.str "amount") [.str "least", .str "at_least"] = some false := by decide +kernel
theorem in_la_cell : inP (.str "cell") [.str "least", .str "at_least"] = some false := by decide +kernel
theorem in_la_more : inP (.str "more") [.str "least", .str "at_least"] = some false := by decide +kernel
theorem in_la_least : inP (.str "least") [.str "least", .str "at_least"] = some true := by decide +kernel
theorem in_la_greatest : inP (.str "greatest") [.str "least", .str "at_least"] = some false := by decide +kernel
theorem in_la_when : inP (.str "when") [.str "least", .str "at_least"] = some false := by decide +kernel
theorem in_la_only : inP (.str "only") [.str "least", .str "at_least"] = some false := by decide +kernel
theorem in_la_at_least : inP (.str "at_least") [.str "least", .str "at_least"] = some true := by decide +kernel
theorem in_la_at_most : inP (.str "at_most") [.str "least", .str "at_least"] = some false := by decide +kernel
theorem in_cw_amount : inP (.str "amount") [.str "cell", .str "when"] = some false := by decide +kernel
theorem in_cw_cell : inP (.str "cell") [.str "cell", .str "when"] = some true := by decide +kernel
theorem in_cw_more : inP (.str "more") [.str "cell", .str "when"] = some false := by decide +kernel
theorem in_cw_least : inP (.str "least") [.str "cell", .str "when"] = some false := by decide +kernel
theorem in_cw_greatest : inP (.str "greatest") [.str "cell", .str "when"] = some false := by decide +kernel
theorem in_cw_when : inP (.str "when") [.str "cell", .str "when"] = some true := by decide +kernel
theorem in_cw_only : inP (.str "only") [.str "cell", .str "when"] = some false := by decide +kernel
theorem in_cw_at_least : inP (.str "at_least") [.str "cell", .str "when"] = some false := by decide +kernel
theorem in_cw_at_most : inP (.str "at_most") [.str "cell", .str "when"] = some false := by decide +kernel
theorem W_some {A : Type} {a : A} {Q : A → Prop}: W (some a) Q = Q a := propext ⟨fun ⟨b, e, q⟩ => by injection e with e; rw [e]; exact q, fun q => ⟨a, rfl, q⟩⟩
theorem map_some {α β : Type} {f : α → β} {a : α}: Option.map f (some a) = some (f a) := rfl
theorem lim_dt {A : Type} {d : D} {ε : Ev} {κ : D → Ev → Option A} {p : Prop} [Decidable p] (h : p): hLim (decide p) d ε κ = κ d ε := by rw [decide_eq_true h]; rfl
theorem app_dt {A : Type} {i : Nat} {xs : List D} {ε : Ev} {κ : R → Option A} {p : Prop} [Decidable p] (h : p): hApp (decide p) i xs ε κ = hE (putI ε i (.lst xs)) κ := by rw [decide_eq_true h]; rfl
theorem dp_dt {A : Type} {i : Nat} {k : Int} {d : D} {xs : List (Key × D)} {ε : Ev} {κ : R → Option A} {p : Prop} [Decidable p] (h : p): hDp (decide p) i k d xs ε κ = hE (putI ε i (.dct (putKD xs (.inl k) d))) κ := by rw [decide_eq_true h]; rfl
theorem rng_dt {A : Type} {lo n : Int} {ε : Ev} {κ : List D → Ev → Option A} {p : Prop} [Decidable p] (h : p): hRng (decide p) lo n ε κ = κ (rngD lo n.toNat) ε := by rw [decide_eq_true h]; rfl
theorem and_dt {A : Type} {T : Tb} {Φ : Ph} {b : C} {ε : Ev} {κ : D → Ev → Option A} {p : Prop} [Decidable p] (h : p): hAnd (decide p) T Φ b ε κ = dE T Φ b ε κ := by rw [decide_eq_true h]; rfl
theorem and_df {A : Type} {T : Tb} {Φ : Ph} {b : C} {ε : Ev} {κ : D → Ev → Option A} {p : Prop} [Decidable p] (h : ¬ p): hAnd (decide p) T Φ b ε κ = κ (.bl false) ε := by rw [decide_eq_false h]; rfl
theorem or_dt {A : Type} {T : Tb} {Φ : Ph} {b : C} {ε : Ev} {κ : D → Ev → Option A} {p : Prop} [Decidable p] (h : p): hOr (decide p) T Φ b ε κ = κ (.bl true) ε := by rw [decide_eq_true h]; rfl
theorem or_df {A : Type} {T : Tb} {Φ : Ph} {b : C} {ε : Ev} {κ : D → Ev → Option A} {p : Prop} [Decidable p] (h : ¬ p): hOr (decide p) T Φ b ε κ = dE T Φ b ε κ := by rw [decide_eq_false h]; rfl
theorem ife_dt {A : Type} {T : Tb} {Φ : Ph} {a b : C} {ε : Ev} {κ : D → Ev → Option A} {p : Prop} [Decidable p] (h : p): hIfe (decide p) T Φ a b ε κ = dE T Φ a ε κ := by rw [decide_eq_true h]; rfl
theorem ife_df {A : Type} {T : Tb} {Φ : Ph} {a b : C} {ε : Ev} {κ : D → Ev → Option A} {p : Prop} [Decidable p] (h : ¬ p): hIfe (decide p) T Φ a b ε κ = dE T Φ b ε κ := by rw [decide_eq_false h]; rfl
theorem tand_dt {A : Type} {T : Tb} {Φ : Ph} {b : C} {ε : Ev} {κ : Bool → Ev → Option A} {p : Prop} [Decidable p] (h : p): hTand (decide p) T Φ b ε κ = dT T Φ b ε κ := by rw [decide_eq_true h]; rfl
theorem tand_df {A : Type} {T : Tb} {Φ : Ph} {b : C} {ε : Ev} {κ : Bool → Ev → Option A} {p : Prop} [Decidable p] (h : ¬ p): hTand (decide p) T Φ b ε κ = κ false ε := by rw [decide_eq_false h]; rfl
theorem tor_dt {A : Type} {T : Tb} {Φ : Ph} {b : C} {ε : Ev} {κ : Bool → Ev → Option A} {p : Prop} [Decidable p] (h : p): hTor (decide p) T Φ b ε κ = κ true ε := by rw [decide_eq_true h]; rfl
theorem tor_df {A : Type} {T : Tb} {Φ : Ph} {b : C} {ε : Ev} {κ : Bool → Ev → Option A} {p : Prop} [Decidable p] (h : ¬ p): hTor (decide p) T Φ b ε κ = dT T Φ b ε κ := by rw [decide_eq_false h]; rfl
theorem ifs_dt {A : Type} {T : Tb} {Φ : Ph} {a b : Ss} {ε : Ev} {κ : R → Option A} {p : Prop} [Decidable p] (h : p): hIfs (decide p) T Φ a b ε κ = dSs T Φ a ε κ := by rw [decide_eq_true h]; rfl
theorem ifs_df {A : Type} {T : Tb} {Φ : Ph} {a b : Ss} {ε : Ev} {κ : R → Option A} {p : Prop} [Decidable p] (h : ¬ p): hIfs (decide p) T Φ a b ε κ = dSs T Φ b ε κ := by rw [decide_eq_false h]; rfl
theorem cw_dt {A : Type} {T : Tb} {Φ : Ph} {e : C} {ε : Ev} {ky : D → Ev → Option A} {kn : Ev → Option A} {p : Prop} [Decidable p] (h : p): hCw (decide p) T Φ e ε ky kn = dE T Φ e ε ky := by rw [decide_eq_true h]; rfl
theorem cw_df {A : Type} {T : Tb} {Φ : Ph} {e : C} {ε : Ev} {ky : D → Ev → Option A} {kn : Ev → Option A} {p : Prop} [Decidable p] (h : ¬ p): hCw (decide p) T Φ e ε ky kn = kn ε := by rw [decide_eq_false h]; rfl
theorem whl_dt {A : Type} {f : Ev → (R → Option A) → Option A} {J : List Nat} {K : Ev → Option A} {ε : Ev} {κ : R → Option A} {p : Prop} [Decidable p] (h : p): hWhl (decide p) f J K ε κ = f ε (kF J K κ) := by rw [decide_eq_true h]; rfl
theorem whl_df {A : Type} {f : Ev → (R → Option A) → Option A} {J : List Nat} {K : Ev → Option A} {ε : Ev} {κ : R → Option A} {p : Prop} [Decidable p] (h : ¬ p): hWhl (decide p) f J K ε κ = hE (wipeE ε J) κ := by rw [decide_eq_false h]; rfl
/-! ### loops and comprehensions -/
section
variable {A σ β : Type} {Q : A → Prop}
theorem W_bind {x : Option A} (a : A) (h : x = some a) (q : Q a) : W x Q := ⟨a, h, q⟩
theorem W_eq {x : Option A} {a : A} (h : W x fun b => b = a) : x = some a := by
  obtain ⟨b, e, q⟩ := h
  rw [e, q]
def forCw (J : List Nat) (f : D → Ev → (R → Option A) → Option A) : List D → Ev → (R → Option A) → Option A
  | [], ε, κ => κ (.nx ε)
  | d :: ds, ε, κ => f d ε (kF J (Kw J (fun ε1 => forCw J f ds ε1 κ)) κ)
theorem forC_w {J : List Nat} {f : D → Ev → (R → Option A) → Option A} : ∀ (ds : List D) (ε : Ev) (κ : R → Option A), forC J f ds ε κ = forCw J f ds (wipeE ε J) κ
  | [], ε, κ => rfl
  | d :: ds, ε, κ => by
    show f d (wipeE ε J) _ = f d (wipeE ε J) _
    congr 1
    have : (fun ε1 => forC J f ds ε1 κ) = Kw J (fun ε1 => forCw J f ds ε1 κ) := funext fun ε1 => forC_w ds ε1 κ
    rw [this]
/-- a loop: s goes along, I says what holds; the body goes on by K -/
theorem forW {J : List Nat} {f : D → Ev → (R → Option A) → Option A} {κ : R → Option A} {enc : β → D} {xs : List β} {ε : Ev} (ε1 : Ev) (vars : σ → List (Nat × D)) (I : Nat → σ → Prop) (s0 : σ) (h0 : wipeE ε J = putAll ε1 (vars s0)) (i0 : I 0 s0)
    (hb : ∀ i x s K, xs[i]? = some x → I i s → (∀ s', I (i + 1) s' → W (K (putAll ε1 (vars s'))) Q) → W (f (enc x) (putAll ε1 (vars s)) (kF J (Kw J K) κ)) Q)
    (hk : ∀ s, I xs.length s → W (κ (.nx (putAll ε1 (vars s)))) Q) : W (forC J f (xs.map enc) ε κ) Q := by
  have main : ∀ (ys : List β) (i : Nat) (s : σ), xs.drop i = ys → i + ys.length = xs.length → I i s → W (forCw J f (ys.map enc) (putAll ε1 (vars s)) κ) Q := by
    intro ys
    induction ys with
    | nil =>
      intro i s hd hl hi
      have : i = xs.length := by simpa using hl
      exact hk s (this ▸ hi)
    | cons y ys ih =>
      intro i s hd hl hi
      have hx : xs[i]? = some y := by
        have := congrArg (fun l => l[0]?) hd
        simpa using this
      refine hb i y s (fun ε' => forCw J f (ys.map enc) ε' κ) hx hi fun s' h1 => ih (i + 1) s' ?_ (by simp at hl; omega) h1
      have := congrArg List.tail hd
      simpa using this
  rw [forC_w, h0]
  exact main xs 0 s0 rfl (by simp) i0
/-- .. as a fold -/
theorem forF {J : List Nat} {f : D → Ev → (R → Option A) → Option A} {κ : R → Option A} {enc : β → D} {xs : List β} {ε : Ev} (ε1 : Ev) (vars : σ → List (Nat × D)) (step : σ → β → σ) (s0 : σ) (P : σ → Prop) (h0 : wipeE ε J = putAll ε1 (vars s0)) (p0 : P s0)
    (hb : ∀ x s K, x ∈ xs → P s → (P (step s x) → W (K (putAll ε1 (vars (step s x)))) Q) → W (f (enc x) (putAll ε1 (vars s)) (kF J (Kw J K) κ)) Q)
    (hk : P (xs.foldl step s0) → W (κ (.nx (putAll ε1 (vars (xs.foldl step s0))))) Q) : W (forC J f (xs.map enc) ε κ) Q := by
  refine forW ε1 vars (fun i s => s = (xs.take i).foldl step s0 ∧ P s) s0 h0 ⟨rfl, p0⟩ (fun i x s K hx hi hK => ?_) fun s hs => ?_
  · refine hb x s K (List.mem_of_getElem? hx) hi.2 fun hp => hK _ ⟨?_, hp⟩
    have hl := (List.getElem?_eq_some_iff.mp hx).1
    rw [List.take_succ, hx, List.foldl_append, ← hi.1]
    rfl
  · obtain ⟨e, hp⟩ := hs
    rw [List.take_length] at e
    subst e
    exact hk hp
/-- .. that makes a list, one element a turn -/
theorem forMap {γ : Type} {J : List Nat} {f : D → Ev → (R → Option A) → Option A} {κ : R → Option A} {enc : β → D} {xs : List β} {ε : Ev} (ε1 : Ev) (n : Nat) (e : γ → D) (g : β → γ) (h0 : wipeE ε J = putAll ε1 [(n, .lst [])]) (hl : xs.length ≤ lim)
    (hb : ∀ x bs K, x ∈ xs → bs.length < 1000000 → W (K (putAll ε1 [(n, .lst ((bs ++ [g x]).map e))])) Q → W (f (enc x) (putAll ε1 [(n, .lst (bs.map e))]) (kF J (Kw J K) κ)) Q)
    (hk : W (κ (.nx (putAll ε1 [(n, .lst ((xs.map g).map e))]))) Q) : W (forC J f (xs.map enc) ε κ) Q := by
  refine forW (σ := List γ) ε1 (fun bs => [(n, .lst (bs.map e))]) (fun i bs => bs = (xs.take i).map g) [] h0 (by simp) (fun i x s K hx hi hK => ?_) fun s hs => ?_
  · have hlt := (List.getElem?_eq_some_iff.mp hx).1
    refine hb x s K (List.mem_of_getElem? hx) (by rw [hi]; unfold lim at hl; simp; omega) (hK _ ?_)
    rw [List.take_succ, hx, List.map_append, ← hi]; rfl
  · rw [List.take_length] at hs
    rw [hs]; exact hk
/-- .. with a test -/
theorem forFil {γ : Type} {J : List Nat} {f : D → Ev → (R → Option A) → Option A} {κ : R → Option A} {enc : β → D} {xs : List β} {ε : Ev} (ε1 : Ev) (n : Nat) (p : β → Bool) (e : γ → D) (g : β → γ) (h0 : wipeE ε J = putAll ε1 [(n, .lst [])]) (hl : xs.length ≤ lim)
    (hb : ∀ x bs K, x ∈ xs → bs.length < 1000000 → (p x = true → W (K (putAll ε1 [(n, .lst ((bs ++ [g x]).map e))])) Q) → (p x = false → W (K (putAll ε1 [(n, .lst (bs.map e))])) Q) → W (f (enc x) (putAll ε1 [(n, .lst (bs.map e))]) (kF J (Kw J K) κ)) Q)
    (hk : W (κ (.nx (putAll ε1 [(n, .lst (((xs.filter p).map g).map e))]))) Q) : W (forC J f (xs.map enc) ε κ) Q := by
  refine forW (σ := List γ) ε1 (fun bs => [(n, .lst (bs.map e))]) (fun i bs => bs = ((xs.take i).filter p).map g) [] h0 (by simp) (fun i x s K hx hi hK => ?_) fun s hs => ?_
  · have hlt := (List.getElem?_eq_some_iff.mp hx).1
    refine hb x s K (List.mem_of_getElem? hx) ?_ (fun hp => hK _ ?_) (fun hp => hK _ ?_)
    · rw [hi, List.length_map]
      have := List.length_filter_le p (xs.take i)
      unfold lim at hl
      simp at this; omega
    · rw [List.take_succ, hx, List.filter_append, List.map_append, ← hi]
      simp [hp]
    · rw [List.take_succ, hx, List.filter_append, List.map_append, ← hi]
      simp [hp]
  · rw [List.take_length] at hs
    rw [hs]; exact hk
/-- .. that goes through if p holds of all, and is left otherwise -/
theorem forAll {J : List Nat} {f : D → Ev → (R → Option A) → Option A} {κ : R → Option A} {enc : β → D} {xs : List β} {ε : Ev} (p : β → Bool)
    (hb : ∀ x K, x ∈ xs → (p x = true → W (K (wipeE ε J)) Q) → W (f (enc x) (wipeE ε J) (kF J (Kw J K) κ)) Q)
    (hk : (∀ x ∈ xs, p x = true) → W (κ (.nx (wipeE ε J))) Q) : W (forC J f (xs.map enc) ε κ) Q := by
  refine forW (σ := Unit) (wipeE ε J) (fun _ => []) (fun i _ => ∀ x ∈ xs.take i, p x = true) () rfl (by simp) (fun i x s K hx hi hK => ?_) fun s hs => ?_
  · refine hb x K (List.mem_of_getElem? hx) fun hp => hK () fun y hy => ?_
    rw [List.take_succ, hx, List.mem_append] at hy
    rcases hy with hy | hy
    · exact hi y hy
    · have : y = x := by simpa using hy
      rw [this]; exact hp
  · exact hk (by rwa [List.take_length] at hs)
def whilCw (J : List Nat) (t : Ev → (Bool → Ev → Option A) → Option A) (f : Ev → (R → Option A) → Option A) : Nat → Ev → (R → Option A) → Option A
  | 0, _, _ => none
  | n + 1, ε, κ => t ε (KWhl f J (Kw J (fun ε2 => whilCw J t f n ε2 κ)) κ)
theorem whilC_w {J : List Nat} {t : Ev → (Bool → Ev → Option A) → Option A} {f : Ev → (R → Option A) → Option A} : ∀ (n : Nat) (ε : Ev) (κ : R → Option A), whilC J t f n ε κ = whilCw J t f n (wipeE ε J) κ
  | 0, ε, κ => rfl
  | n + 1, ε, κ => by
    have : (fun ε1 => whilC J t f n ε1 κ) = Kw J (fun ε1 => whilCw J t f n ε1 κ) := funext fun ε1 => whilC_w n ε1 κ
    simp only [whilC, whilCw, this]; rfl
/-- a while: m falls -/
theorem whilW {J : List Nat} {t : Ev → (Bool → Ev → Option A) → Option A} {f : Ev → (R → Option A) → Option A} {κ : R → Option A} {n : Nat} {ε : Ev} (ε1 : Ev) (vars : σ → List (Nat × D)) (I : σ → Prop) (m : σ → Nat) (s0 : σ) (h0 : wipeE ε J = putAll ε1 (vars s0)) (i0 : I s0) (hn : m s0 < n)
    (hb : ∀ s K, I s → (∀ s', I s' → m s' < m s → W (K (putAll ε1 (vars s'))) Q) → W (t (putAll ε1 (vars s)) (KWhl f J (Kw J K) κ)) Q) :
    W (whilC J t f n ε κ) Q := by
  have main : ∀ (n : Nat) (s : σ), I s → m s < n → W (whilCw J t f n (putAll ε1 (vars s)) κ) Q := by
    intro n
    induction n with
    | zero => intro s _ h; omega
    | succ n ih => intro s hs hm; exact hb s (fun ε' => whilCw J t f n ε' κ) hs fun s' h1 h2 => ih s' h1 (by omega)
  rw [whilC_w, h0]
  exact main n s0 i0 hn

theorem wipe_get {ε : Ev} : ∀ {own : List Nat} {j : Nat}, (wipeE ε own)[j]? = if j ∈ own ∧ j < ε.length then some none else ε[j]?
  | [], j => by simp [wipeE]
  | v :: vs, j => by
    unfold wipeE
    rw [List.getElem?_set]
    by_cases e : v = j
    · subst e
      rw [if_pos rfl, wipeE_length]
      by_cases hv : v < ε.length
      · simp [hv]
      · rw [if_neg hv]
        simp [hv]
    · rw [if_neg e, wipe_get]
      have : (j ∈ v :: vs) ↔ j ∈ vs := by simp [Ne.symm e]
      simp only [this]
theorem back_length {ε ε' : Ev} : ∀ {own : List Nat}, (backE ε ε' own).length = ε'.length
  | [] => rfl
  | v :: vs => by unfold backE; rw [List.length_set, back_length]
theorem back_get {ε ε' : Ev} : ∀ {own : List Nat} {j : Nat}, (backE ε ε' own)[j]? = if j ∈ own ∧ j < ε'.length then some (match ε[j]? with | some x => x | none => none) else ε'[j]?
  | [], j => by simp [backE]
  | v :: vs, j => by
    unfold backE
    rw [List.getElem?_set]
    by_cases e : v = j
    · subst e
      rw [if_pos rfl, back_length]
      by_cases hv : v < ε'.length
      · rw [if_pos hv, if_pos ⟨List.mem_cons_self .., hv⟩]
        all_goals (rcases ε[v]? with _ | x <;> rfl)
      · rw [if_neg hv]
        simp [hv]
    · rw [if_neg e, back_get]
      have : (j ∈ v :: vs) ↔ j ∈ vs := by simp [Ne.symm e]
      simp only [this]
theorem back_wipe {ε ε' : Ev} {own : List Nat} : backE ε (wipeE ε' own) own = backE ε ε' own := by
  refine List.ext_getElem? fun j => ?_
  rw [back_get, back_get, wipeE_length, wipe_get]
  split
  · rfl
  · rename_i hn; rfl
theorem back_self {ε : Ev} {own : List Nat} : backE ε ε own = ε := by
  refine List.ext_getElem? fun j => ?_
  rw [back_get]
  split
  · rename_i h; rw [List.getElem?_eq_getElem h.2]
  · rfl
def compCw (own : List Nat) (f : D → Ev → (D → Ev → Option A) → (Ev → Option A) → Option A) : List D → Ev → List D → (List D → Ev → Option A) → Option A
  | [], ε, acc, κ => κ acc ε
  | d :: ds, ε, acc, κ => f d ε (fun y ε3 => kif (decide (acc.length < lim)) (compCw own f ds (wipeE ε3 own) (acc ++ [y]) κ) none) (fun ε2 => compCw own f ds (wipeE ε2 own) acc κ)
theorem compC_w {T : Tb} {Φ : Ph} {own : List Nat} {g : Tg} {t e : C} {κ : List D → Ev → Option A} (hκ : ∀ ys ε, κ ys ε = κ ys (wipeE ε own)) : ∀ (ds : List D) (ε : Ev) (acc : List D), compC (cB T Φ own g t e) ds ε acc κ = compCw own (cW T Φ g t e) ds (wipeE ε own) acc κ
  | [], ε, acc => hκ acc ε
  | d :: ds, ε, acc => by
    have h1 : (fun y ε3 => kif (decide (acc.length < lim)) (compC (cB T Φ own g t e) ds ε3 (acc ++ [y]) κ) none) = fun y ε3 => kif (decide (acc.length < lim)) (compCw own (cW T Φ g t e) ds (wipeE ε3 own) (acc ++ [y]) κ) none :=
      funext fun y => funext fun ε3 => by rw [compC_w hκ ds]
    have h2 : (fun ε2 => compC (cB T Φ own g t e) ds ε2 acc κ) = fun ε2 => compCw own (cW T Φ g t e) ds (wipeE ε2 own) acc κ := funext fun ε2 => compC_w hκ ds ε2 acc
    simp only [compC, compCw]
    rw [h1, h2]; rfl
/-- a comprehension: s goes along, ys is made -/
theorem compW {T : Tb} {Φ : Ph} {own : List Nat} {g : Tg} {t e : C} {κ : D → Ev → Option A} {enc : β → D} {xs : List β} {ε : Ev} (ε1 : Ev) (vars : σ → List (Nat × D)) (I : Nat → σ → List D → Prop) (s0 : σ) (h0 : wipeE ε own = putAll ε1 (vars s0)) (i0 : I 0 s0 []) (hl : xs.length ≤ lim) (hy : ∀ i s ys, I i s ys → ys.length ≤ i)
    (hb : ∀ i x s ys (K : List D → Ev → Option A), xs[i]? = some x → I i s ys → (∀ s' ys', I (i + 1) s' ys' → W (K ys' (putAll ε1 (vars s'))) Q) →
      W (cW T Φ g t e (enc x) (putAll ε1 (vars s)) (Kwa own K ys) (Kwn own K ys)) Q)
    (hk : ∀ s ys, I xs.length s ys → W (κ (.lst ys) (backE ε (putAll ε1 (vars s)) own)) Q) : W (compC (cB T Φ own g t e) (xs.map enc) ε [] (KcpE ε own κ)) Q := by
  have main : ∀ (zs : List β) (i : Nat) (s : σ) (ys : List D), xs.drop i = zs → i + zs.length = xs.length → I i s ys → W (compCw own (cW T Φ g t e) (zs.map enc) (putAll ε1 (vars s)) ys (KcpE ε own κ)) Q := by
    intro zs
    induction zs with
    | nil =>
      intro i s ys hd hl' hi
      have : i = xs.length := by simpa using hl'
      exact hk s ys (this ▸ hi)
    | cons z zs ih =>
      intro i s ys hd hl' hi
      have hx : xs[i]? = some z := by
        have := congrArg (fun l => l[0]?) hd
        simpa using this
      have hd' : xs.drop (i + 1) = zs := by
        have := congrArg List.tail hd
        simpa using this
      have hl2 : i + 1 + zs.length = xs.length := by simp at hl'; omega
      have hlt : ys.length < lim := by
        have := hy i s ys hi
        simp at hl'; omega
      have := hb i z s ys (fun ys' ε' => compCw own (cW T Φ g t e) (zs.map enc) ε' ys' (KcpE ε own κ)) hx hi fun s' ys' h => ih (i + 1) s' ys' hd' hl2 h
      simp only [List.map_cons, compCw, decide_eq_true hlt]
      exact this
  rw [compC_w fun ys ε' => by simp only [KcpE, back_wipe], h0]
  exact main xs 0 s0 [] rfl (by simp) i0
/-- .. of a function -/
theorem compMap {T : Tb} {Φ : Ph} {own : List Nat} {g : Tg} {t e : C} {κ : D → Ev → Option A} {enc : β → D} {xs : List β} {ε : Ev} (h : β → D) (hl : xs.length ≤ lim)
    (hb : ∀ x (K : D → Ev → Option A) kn, x ∈ xs → W (K (h x) (wipeE ε own)) Q → W (cW T Φ g t e (enc x) (wipeE ε own) (Kwd own K) kn) Q)
    (hk : W (κ (.lst (xs.map h)) ε) Q) : W (compC (cB T Φ own g t e) (xs.map enc) ε [] (KcpE ε own κ)) Q := by
  refine compW (σ := Unit) (wipeE ε own) (fun _ => []) (fun i _ ys => ys = (xs.take i).map h) () rfl (by simp) hl (fun i s ys e => by rw [e]; simp; omega) (fun i x s ys K hx hi hK => ?_) fun s ys hi => ?_
  · refine hb x (fun y ε' => K (ys ++ [y]) ε') _ (List.mem_of_getElem? hx) (hK () _ ?_)
    rw [List.take_succ, hx, List.map_append, ← hi]; rfl
  · rw [List.take_length] at hi
    rw [hi]
    show W (κ _ (backE ε (wipeE ε own) own)) Q
    rw [back_wipe, back_self]; exact hk
theorem compMap2 {γ : Type} {T : Tb} {Φ : Ph} {own : List Nat} {g : Tg} {t e : C} {κ : D → Ev → Option A} {enc : β → D} {xs : List β} {ε : Ev} (f : γ → D) (h : β → γ) (hl : xs.length ≤ lim)
    (hb : ∀ x (K : D → Ev → Option A) kn, x ∈ xs → W (K (f (h x)) (wipeE ε own)) Q → W (cW T Φ g t e (enc x) (wipeE ε own) (Kwd own K) kn) Q)
    (hk : W (κ (.lst ((xs.map h).map f)) ε) Q) : W (compC (cB T Φ own g t e) (xs.map enc) ε [] (KcpE ε own κ)) Q :=
  compMap (fun x => f (h x)) hl hb (by rw [List.map_map] at hk; exact hk)
/-- .. with an if -/
theorem compFil {T : Tb} {Φ : Ph} {own : List Nat} {g : Tg} {t e : C} {κ : D → Ev → Option A} {enc : β → D} {xs : List β} {ε : Ev} (p : β → Bool) (h : β → D) (hl : xs.length ≤ lim)
    (hb : ∀ x (K : D → Ev → Option A) (kn : Ev → Option A), x ∈ xs → (p x = true → W (K (h x) (wipeE ε own)) Q) → (p x = false → W (kn (wipeE ε own)) Q) → W (cW T Φ g t e (enc x) (wipeE ε own) (Kwd own K) (Kw own kn)) Q)
    (hk : W (κ (.lst ((xs.filter p).map h)) ε) Q) : W (compC (cB T Φ own g t e) (xs.map enc) ε [] (KcpE ε own κ)) Q := by
  refine compW (σ := Unit) (wipeE ε own) (fun _ => []) (fun i _ ys => ys = ((xs.take i).filter p).map h) () rfl (by simp) hl (fun i s ys e => by
    rw [e, List.length_map]
    exact Nat.le_trans (List.length_filter_le ..) (by simp; omega)) (fun i x s ys K hx hi hK => ?_) fun s ys hi => ?_
  · refine hb x (fun y ε' => K (ys ++ [y]) ε') (fun ε' => K ys ε') (List.mem_of_getElem? hx) (fun hp => hK () _ ?_) (fun hp => hK () _ ?_)
    · rw [List.take_succ, hx, List.filter_append, List.map_append, ← hi]
      simp [hp]
    · rw [List.take_succ, hx, List.filter_append, List.map_append, ← hi]
      simp [hp]
  · rw [List.take_length] at hi
    rw [hi]
    show W (κ _ (backE ε (wipeE ε own) own)) Q
    rw [back_wipe, back_self]; exact hk
theorem compFil2 {γ : Type} {T : Tb} {Φ : Ph} {own : List Nat} {g : Tg} {t e : C} {κ : D → Ev → Option A} {enc : β → D} {xs : List β} {ε : Ev} (p : β → Bool) (f : γ → D) (h : β → γ) (hl : xs.length ≤ lim)
    (hb : ∀ x (K : D → Ev → Option A) (kn : Ev → Option A), x ∈ xs → (p x = true → W (K (f (h x)) (wipeE ε own)) Q) → (p x = false → W (kn (wipeE ε own)) Q) → W (cW T Φ g t e (enc x) (wipeE ε own) (Kwd own K) (Kw own kn)) Q)
    (hk : W (κ (.lst (((xs.filter p).map h).map f)) ε) Q) : W (compC (cB T Φ own g t e) (xs.map enc) ε [] (KcpE ε own κ)) Q :=
  compFil p (fun x => f (h x)) hl hb (by rw [List.map_map] at hk; exact hk)
/-- .. of things of which P is known -/
theorem compEx {γ : Type} {T : Tb} {Φ : Ph} {own : List Nat} {g : Tg} {t e : C} {κ : D → Ev → Option A} {enc : β → D} {xs : List β} {ε : Ev} (encg : γ → D) (P : β → γ → Prop) (hl : xs.length ≤ lim)
    (hb : ∀ x (K : D → Ev → Option A) kn, x ∈ xs → (∀ y, P x y → W (K (encg y) (wipeE ε own)) Q) → W (cW T Φ g t e (enc x) (wipeE ε own) (Kwd own K) kn) Q)
    (hk : ∀ ys : List γ, ys.length = xs.length → (∀ (i : Nat) x y, xs[i]? = some x → ys[i]? = some y → P x y) → W (κ (.lst (ys.map encg)) ε) Q) : W (compC (cB T Φ own g t e) (xs.map enc) ε [] (KcpE ε own κ)) Q := by
  refine compW (σ := Unit) (wipeE ε own) (fun _ => []) (fun i _ ys => i ≤ xs.length ∧ ∃ zs : List γ, ys = zs.map encg ∧ zs.length = i ∧ ∀ (j : Nat) x y, xs[j]? = some x → zs[j]? = some y → P x y) () rfl ⟨Nat.zero_le _, [], rfl, rfl, by simp⟩ hl (fun i s ys ⟨_, zs, e, h, _⟩ => by rw [e, List.length_map, h]; exact Nat.le_refl _) (fun i x s ys K hx hi hK => ?_) fun s ys hi => ?_
  · obtain ⟨hil, zs, rfl, hz, hp⟩ := hi
    have hlt := (List.getElem?_eq_some_iff.mp hx).1
    refine hb x (fun y ε' => K (zs.map encg ++ [y]) ε') _ (List.mem_of_getElem? hx) fun y hy => hK () _ ⟨hlt, zs ++ [y], by simp, by simp [hz], fun j x' y' h1 h2 => ?_⟩
    by_cases hj : j < zs.length
    · rw [List.getElem?_append_left hj] at h2
      exact hp j x' y' h1 h2
    · have hj2 : j = i := by
        have := (List.getElem?_eq_some_iff.mp h2).1
        simp at this; omega
      subst hj2
      rw [List.getElem?_append_right (by omega), hz] at h2
      simp at h2
      rw [hx] at h1
      injection h1 with h1
      rw [← h1, ← h2]; exact hy
  · obtain ⟨_, zs, rfl, hz, hp⟩ := hi
    show W (κ _ (backE ε (wipeE ε own) own)) Q
    rw [back_wipe, back_self]; exact hk zs hz hp
/-- .. all of one kind -/
theorem compAll {γ : Type} {T : Tb} {Φ : Ph} {own : List Nat} {g : Tg} {t e : C} {κ : D → Ev → Option A} {enc : β → D} {xs : List β} {ε : Ev} (encg : γ → D) (P : γ → Prop) (hl : xs.length ≤ lim)
    (hb : ∀ x (K : D → Ev → Option A) kn, x ∈ xs → (∀ y, P y → W (K (encg y) (wipeE ε own)) Q) → W (cW T Φ g t e (enc x) (wipeE ε own) (Kwd own K) kn) Q)
    (hk : ∀ ys : List γ, ys.length = xs.length → (∀ y ∈ ys, P y) → W (κ (.lst (ys.map encg)) ε) Q) : W (compC (cB T Φ own g t e) (xs.map enc) ε [] (KcpE ε own κ)) Q :=
  compEx encg (fun _ y => P y) hl hb fun ys h1 h2 => hk ys h1 fun y hy => by
    obtain ⟨i, hi, e⟩ := List.getElem_of_mem hy
    exact h2 i xs[i] y (List.getElem?_eq_getElem (by omega)) (by rw [List.getElem?_eq_getElem hi, e])
/-- what a statement leaves, as far as it is told -/
theorem seqW {T : Tb} {Φ : Ph} {s : S} {r : Ss} {ε : Ev} {κ : R → Option A} (ε1 : Ev) (vars : σ → List (Nat × D)) (I : σ → Prop) (hb : ∀ K : Ev → Option A, (∀ s, I s → W (K (putAll ε1 (vars s))) Q) → W (dS T Φ s ε (KS K κ)) Q) (hk : ∀ s, I s → W (dSs T Φ r (putAll ε1 (vars s)) κ) Q) : W (dS T Φ s ε (KN T Φ r κ)) Q := hb (fun ε => dSs T Φ r ε κ) hk
theorem ifsW {T : Tb} {Φ : Ph} {c : Bool} {a b r : Ss} {ε : Ev} {κ : R → Option A} (ε1 : Ev) (vars : σ → List (Nat × D)) (I : σ → Prop) (hb : ∀ K : Ev → Option A, (∀ s, I s → W (K (putAll ε1 (vars s))) Q) → W (hIfs c T Φ a b ε (KS K κ)) Q) (hk : ∀ s, I s → W (dSs T Φ r (putAll ε1 (vars s)) κ) Q) : W (hIfs c T Φ a b ε (KN T Φ r κ)) Q := hb (fun ε => dSs T Φ r ε κ) hk
theorem useW {x : Option (D × List D)} {ms : List Md} {as : Cs} {ε : Ev} {κ : D → Ev → Option A} {P : D × List D → Prop} (h : W x P) (g : ∀ r os, P (r, os) → W (hOut ms as os ε r κ) Q) : W (hC x ms as ε κ) Q := by
  obtain ⟨⟨r, os⟩, e, p⟩ := h
  rw [e]
  exact g r os p
theorem ga_W {T : Tb} {k f : Nat} {df : Df} {ds : List D} {Q : D × List D → Prop} (hT : T f = some df) (hl : ds.length = df.ms.length) (h : W (dSs T (Ga T k) df.body (ds.map some ++ List.replicate (df.N.length - ds.length) none) (fin df.ms)) Q) (hn : df.nw = false := by rfl) : W (Ga T (k + 1) f ds) Q := by
  rw [Ga_run hT hl hn]; exact h
end
end Z
end VS

set_option maxHeartbeats 1000000
/-! L0: data of the program's kinds, equality and repr of them. -/
namespace VS
open PySem L2

/-! ### repr -/
mutual
def gd : D → Bool
  | .non => true
  | .bl _ => true
  | .int i => decide (i.natAbs < 10 ^ 12)
  | .str x => PyData.strOk x && x.cps.toList.all fun c => decide (c < 16 ^ 8)
  | .lst xs => gds xs
  | .tup xs => gds xs
  | _ => false
def gds : List D → Bool
  | [] => true
  | d :: ds => gd d && gds ds
end
mutual
def blk : D → Nat
  | .str x => x.cps.size
  | .lst xs => blks xs
  | .tup xs => blks xs
  | _ => 0
def blks : List D → Nat
  | [] => 0
  | d :: ds => blk d + 1 + blks ds
end
mutual
def dep : D → Nat
  | .lst xs => deps xs + 1
  | .tup xs => deps xs + 1
  | _ => 0
def deps : List D → Nat
  | [] => 0
  | d :: ds => max (dep d) (deps ds)
end
mutual
theorem gd_ok : ∀ d : D, gd d = true → plain d = true ∧ (toP d).canLay0 = true ∧ (toP d).showable = true ∧ (toP d).leavesShort 13 = true ∧ (toP d).depth = dep d ∧ (toP d).bulk = blk d
  | .non, _ => by simp [plain, toP, PyData.canLay0, PyData.showable, PyData.leavesShort, PyData.depth, dep, PyData.bulk, blk]
  | .bl _, _ => by simp [plain, toP, PyData.canLay0, PyData.showable, PyData.leavesShort, PyData.depth, dep, PyData.bulk, blk]
  | .int i, h => by
    have h : i.natAbs < 10 ^ 12 := of_decide_eq_true h
    have h1 := PyData.shown_int_le h
    have h2 : i.natAbs.log2 < 1920 := by
      by_cases hz : i.natAbs = 0
      · rw [hz]; decide
      · exact (Nat.log2_lt hz).mpr (Nat.lt_of_lt_of_le h (by decide +kernel))
    refine ⟨rfl, rfl, ?_, ?_, rfl, rfl⟩
    · simp only [toP, PyData.showable, decide_eq_true h2]
    · simp only [toP, PyData.leavesShort, decide_eq_true h1]
  | .str x, h => by
    simp only [gd, Bool.and_eq_true] at h
    refine ⟨rfl, ?_, rfl, ?_, rfl, rfl⟩
    · simpa [toP, PyData.canLay0] using h.1
    · simpa [toP, PyData.leavesShort] using h.2
  | .lst xs, h => by
    obtain ⟨a, b, c, d, e, f⟩ := gds_ok xs (by simpa [gd] using h)
    exact ⟨by simpa [plain] using a, by simpa [toP, PyData.canLay0] using b, by simpa [toP, PyData.showable] using c, by simpa [toP, PyData.leavesShort] using d, by simp [toP, PyData.depth, dep, e], by simp [toP, PyData.bulk, blk, f]⟩
  | .tup xs, h => by
    obtain ⟨a, b, c, d, e, f⟩ := gds_ok xs (by simpa [gd] using h)
    exact ⟨by simpa [plain] using a, by simpa [toP, PyData.canLay0] using b, by simpa [toP, PyData.showable] using c, by simpa [toP, PyData.leavesShort] using d, by simp [toP, PyData.depth, dep, e], by simp [toP, PyData.bulk, blk, f]⟩
  | .dct _, h => by simp [gd] at h
  | .set _, h => by simp [gd] at h
  | .scr _, h => by simp [gd] at h
theorem gds_ok : ∀ ds : List D, gds ds = true → plains ds = true ∧ PyData.canLayAll0 (toPs ds) = true ∧ PyData.showableAll (toPs ds) = true ∧ PyData.leavesShortAll 13 (toPs ds) = true ∧ PyData.depthAll (toPs ds) = deps ds ∧ PyData.bulkAll (toPs ds) = blks ds
  | [], _ => by simp [plains, toPs, PyData.canLayAll0, PyData.showableAll, PyData.leavesShortAll, PyData.depthAll, deps, PyData.bulkAll, blks]
  | d :: ds, h => by
    simp only [gds, Bool.and_eq_true] at h
    obtain ⟨a, b, c, e, f, g⟩ := gd_ok d h.1
    obtain ⟨a', b', c', e', f', g'⟩ := gds_ok ds h.2
    exact ⟨by simp [plains, a, a'], by simp [toPs, PyData.canLayAll0, b, b'], by simp [toPs, PyData.showableAll, c, c'], by simp [toPs, PyData.leavesShortAll, e, e'], by simp [toPs, PyData.depthAll, deps, f, f'], by simp [toPs, PyData.bulkAll, blks, g, g']⟩
end
/-- of size b at most, and so deep -/
structure Sz (b m : Nat) (d : D) : Prop where
  g : gd d = true
  b : blk d ≤ b
  m : dep d ≤ m
theorem Sz.repr {b m : Nat} {d : D} (h : Sz b m d) (hs : isSeq d = true) (hb : b ≤ 60000) (hm : m ≤ 64) : okRepr d = true := by
  obtain ⟨h1, h2, h3, h4, h5, h6⟩ := gd_ok d h.g
  have hl := PyData.shown_le_bulk 13 (by decide) (toP d) h4
  have hb' := h.b
  have hm' := h.m
  rw [h6] at hl
  have e1 : decide ((toP d).depth ≤ 64) = true := decide_eq_true (by omega)
  have e2 : decide ((toP d).shown.length ≤ lim) = true := decide_eq_true (by unfold lim; omega)
  simp only [okRepr, hs, h1, h3, e1, e2, Bool.and_self]
theorem Sz.mono {b m b' m' : Nat} {d : D} (h : Sz b m d) (hb : b ≤ b') (hm : m ≤ m') : Sz b' m' d := ⟨h.g, Nat.le_trans h.b hb, Nat.le_trans h.m hm⟩
theorem Sz.alls {b m : Nat} : ∀ {ds : List D}, (∀ d ∈ ds, Sz b m d) → gds ds = true ∧ blks ds ≤ ds.length * (b + 1) ∧ deps ds ≤ m
  | [], _ => ⟨rfl, Nat.zero_le _, Nat.zero_le _⟩
  | d :: ds, h => by
    obtain ⟨h1, h2, h3⟩ := Sz.alls fun e he => h e (List.mem_cons_of_mem _ he)
    obtain ⟨g1, g2, g3⟩ := h d (List.mem_cons_self ..)
    refine ⟨by simp [gds, g1, h1], ?_, Nat.max_le.mpr ⟨g3, h3⟩⟩
    simp only [blks, List.length_cons, Nat.succ_mul]
    omega
theorem Sz.lst {α : Type} {b m L : Nat} {f : α → D} {xs : List α} (h : ∀ x ∈ xs, Sz b m (f x)) (hl : xs.length ≤ L) : Sz (L * (b + 1)) (m + 1) (.lst (xs.map f)) := by
  obtain ⟨h1, h2, h3⟩ := Sz.alls (ds := xs.map f) (b := b) (m := m) (by simpa using h)
  refine ⟨by simpa [gd] using h1, ?_, by simpa [dep] using h3⟩
  rw [List.length_map] at h2
  exact Nat.le_trans (by simpa [blk] using h2) (Nat.mul_le_mul_right _ hl)
theorem Sz.tup1 {b1 m : Nat} {x : D} (h1 : Sz b1 m x) : Sz (b1 + 1) (m + 1) (.tup [x]) := by
  obtain ⟨a1, a2, a3⟩ := h1
  exact ⟨by simp [gd, gds, a1], by simp [blk, blks]; omega, by simp [dep, deps]; omega⟩
theorem Sz.tup2 {b1 b2 m : Nat} {x y : D} (h1 : Sz b1 m x) (h2 : Sz b2 m y) : Sz (b1 + b2 + 2) (m + 1) (.tup [x, y]) := by
  obtain ⟨a1, a2, a3⟩ := h1
  obtain ⟨c1, c2, c3⟩ := h2
  exact ⟨by simp [gd, gds, a1, c1], by simp [blk, blks]; omega, by simp [dep, deps]; omega⟩
theorem Sz.tup3 {b1 b2 b3 m : Nat} {x y z : D} (h1 : Sz b1 m x) (h2 : Sz b2 m y) (h3 : Sz b3 m z) : Sz (b1 + b2 + b3 + 3) (m + 1) (.tup [x, y, z]) := by
  obtain ⟨a1, a2, a3⟩ := h1
  obtain ⟨c1, c2, c3⟩ := h2
  obtain ⟨e1, e2, e3⟩ := h3
  exact ⟨by simp [gd, gds, a1, c1, e1], by simp [blk, blks]; omega, by simp [dep, deps]; omega⟩
theorem Sz.tup4 {b1 b2 b3 b4 m : Nat} {x y z w : D} (h1 : Sz b1 m x) (h2 : Sz b2 m y) (h3 : Sz b3 m z) (h4 : Sz b4 m w) : Sz (b1 + b2 + b3 + b4 + 4) (m + 1) (.tup [x, y, z, w]) := by
  obtain ⟨a1, a2, a3⟩ := h1
  obtain ⟨c1, c2, c3⟩ := h2
  obtain ⟨e1, e2, e3⟩ := h3
  obtain ⟨f1, f2, f3⟩ := h4
  exact ⟨by simp [gd, gds, a1, c1, e1, f1], by simp [blk, blks]; omega, by simp [dep, deps]; omega⟩
theorem Sz.int {i : Int} {m : Nat} (h : -1000000000000 < i ∧ i < 1000000000000) : Sz 0 m (.int i) := ⟨decide_eq_true (by omega), Nat.le_refl _, Nat.zero_le _⟩
theorem Sz.non {m : Nat} : Sz 0 m .non := ⟨rfl, Nat.le_refl _, Nat.zero_le _⟩
theorem Sz.bl {m : Nat} {b : Bool} : Sz 0 m (.bl b) := ⟨rfl, Nat.le_refl _, Nat.zero_le _⟩
/-! ### equality -/
theorem eqP_data {a b : D} (h : okEq a = true) (g : okEq b = true) : eqP a b = some (PyData.eqv (toP a) (toP b)) := by
  unfold VS.eqP
  split
  · rename_i x y
    simp only [toP, PyData.eqv]
    congr 1
  · simp [okEq, plain] at h
  · rw [h, g]; rfl
structure Enc {α : Type} [DecidableEq α] (e : α → D) (m : Nat) : Prop where
  ok : ∀ a, plain (e a) = true ∧ (toP (e a)).canLay0 = true ∧ (toP (e a)).depth ≤ m
  inj : ∀ a b, PyData.eqv (toP (e a)) (toP (e b)) = decide (a = b)
theorem Enc.eqP {α : Type} [DecidableEq α] {e : α → D} {m : Nat} (h : Enc e m) (hm : m ≤ 64) (a b : α) : eqP (e a) (e b) = some (decide (a = b)) := by
  obtain ⟨a1, a2, a3⟩ := h.ok a
  obtain ⟨b1, b2, b3⟩ := h.ok b
  have e1 : decide ((toP (e a)).depth ≤ 64) = true := decide_eq_true (by omega)
  have e2 : decide ((toP (e b)).depth ≤ 64) = true := decide_eq_true (by omega)
  rw [eqP_data (by simp only [okEq, SeqAt.shaped, a1, a2, e1, Bool.and_self]) (by simp only [okEq, SeqAt.shaped, b1, b2, e2, Bool.and_self]), h.inj]
theorem Enc.int : Enc D.int 0 := ⟨fun _ => ⟨rfl, rfl, Nat.le_refl _⟩, fun _ _ => rfl⟩
theorem Enc.bl : Enc D.bl 0 := ⟨fun _ => ⟨rfl, rfl, Nat.le_refl _⟩, fun a b => by cases a <;> cases b <;> rfl⟩
theorem Enc.lists {α : Type} [DecidableEq α] {e : α → D} {m : Nat} (h : Enc e m) : (∀ xs : List α, plains (xs.map e) = true ∧ PyData.canLayAll0 (toPs (xs.map e)) = true ∧ PyData.depthAll (toPs (xs.map e)) ≤ m) ∧
    ∀ xs ys : List α, PyData.eqvAll (toPs (xs.map e)) (toPs (ys.map e)) = decide (xs = ys) := by
  constructor
  · intro xs
    induction xs with
    | nil => simp [plains, toPs, PyData.canLayAll0, PyData.depthAll]
    | cons x xs ih =>
      obtain ⟨a1, a2, a3⟩ := h.ok x
      obtain ⟨b1, b2, b3⟩ := ih
      refine ⟨by simp only [List.map_cons, plains, a1, b1, Bool.and_self], by simp only [List.map_cons, toPs, PyData.canLayAll0, a2, b2, Bool.and_self], ?_⟩
      simp only [List.map_cons, toPs, PyData.depthAll]
      omega
  · intro xs
    induction xs with
    | nil => intro ys; cases ys <;> simp [toPs, PyData.eqvAll]
    | cons x xs ih =>
      intro ys
      cases ys with
      | nil => simp [toPs, PyData.eqvAll]
      | cons y ys =>
        simp only [List.map_cons, toPs, PyData.eqvAll, h.inj, ih, List.cons.injEq]
        by_cases h1 : x = y <;> by_cases h2 : xs = ys <;> simp [h1, h2]
theorem Enc.lst {α : Type} [DecidableEq α] {e : α → D} {m : Nat} (h : Enc e m) : Enc (fun xs : List α => D.lst (xs.map e)) (m + 1) := by
  obtain ⟨h1, h2⟩ := h.lists
  refine ⟨fun xs => ?_, fun xs ys => ?_⟩
  · obtain ⟨a, b, c⟩ := h1 xs
    exact ⟨by simpa [plain] using a, by simpa [toP, PyData.canLay0] using b, by simpa [toP, PyData.depth] using c⟩
  · simpa [toP, PyData.eqv] using h2 xs ys
theorem Enc.pair {α β : Type} [DecidableEq α] [DecidableEq β] {e : α → D} {f : β → D} {m : Nat} (h : Enc e m) (g : Enc f m) : Enc (fun p : α × β => D.tup [e p.1, f p.2]) (m + 1) := by
  refine ⟨fun p => ?_, fun p q => ?_⟩
  · obtain ⟨a1, a2, a3⟩ := h.ok p.1
    obtain ⟨b1, b2, b3⟩ := g.ok p.2
    refine ⟨by simp [plain, plains, a1, b1], by simp [toP, toPs, PyData.canLay0, PyData.canLayAll0, a2, b2], ?_⟩
    simp only [toP, toPs, PyData.depth, PyData.depthAll]
    omega
  · simp only [toP, toPs, PyData.eqv, PyData.eqvAll, h.inj, g.inj, Bool.and_true]
    by_cases h1 : p.1 = q.1 <;> by_cases h2 : p.2 = q.2 <;> simp [h1, h2, Prod.ext_iff]
/-- equality of what is told one by one -/
theorem eqP_lst {xs ys : List D} (h : okEq (.lst xs) = true) (g : okEq (.lst ys) = true) : eqP (.lst xs) (.lst ys) = some (PyData.eqvAll (toPs xs) (toPs ys)) := by
  rw [eqP_data h g]; simp only [toP, PyData.eqv]

/-- a is one of them -/
def memB {α : Type} [DecidableEq α] (a : α) (xs : List α) : Bool := xs.any fun z => decide (z = a)
theorem memB_iff {α : Type} [DecidableEq α] {a : α} {xs : List α} : memB a xs = true ↔ a ∈ xs := by simp [memB]
theorem memB_false {α : Type} [DecidableEq α] {a : α} {xs : List α} : memB a xs = false ↔ a ∉ xs := by
  rw [← memB_iff]; simp
theorem Enc.inP {α : Type} [DecidableEq α] {e : α → D} {m : Nat} (h : Enc e m) (hm : m ≤ 62) (a : α) (xs : List α) : inP (e a) (xs.map e) = some (memB a xs) := by
  obtain ⟨a1, a2, a3⟩ := h.ok a
  obtain ⟨b1, b2, b3⟩ := h.lst.ok xs
  have e1 : decide ((toP (e a)).depth ≤ 64) = true := decide_eq_true (by omega)
  have e2 : decide ((toP (.lst (xs.map e))).depth ≤ 64) = true := decide_eq_true (by omega)
  unfold VS.inP
  simp only [okEq, SeqAt.shaped, a1, a2, b1, b2, e1, e2, Bool.and_self, if_true]
  congr 1
  rw [List.any_map]
  have : (fun z => PyData.eqv (toP z) (toP (e a))) ∘ e = fun z => decide (z = a) := funext fun z => h.inj z a
  rw [this]; rfl
/-! ### amounts -/
abbrev Am := Option Int
def am : Am → D
  | none => .non
  | some i => .int i
theorem am_none : am none = .non := rfl
theorem am_some {i : Int} : am (some i) = .int i := rfl
theorem am_int {i : Int} : D.int i = am (some i) := rfl
theorem isNon_am {a : Am} : isNonD (am a) = a.isNone := by cases a <;> rfl
theorem isTy_am_bool {a : Am} : isTy (am a) .bool = some false := by cases a <;> rfl
theorem Enc.am : Enc am 0 := ⟨fun a => by cases a <;> exact ⟨rfl, rfl, Nat.le_refl _⟩, fun a b => by cases a <;> cases b <;> simp [VS.am, toP, PyData.eqv]; exact Bool.beq_eq_decide_eq _ _⟩
theorem eqP_am {a b : Am} : eqP (am a) (am b) = some (decide (a = b)) := Enc.am.eqP (by decide) a b
theorem eqP_ams {a b : List Am} : eqP (.lst (a.map am)) (.lst (b.map am)) = some (decide (a = b)) := Enc.am.lst.eqP (by decide) a b
theorem okEq_atom {d : D} {r : List D} (h : plain d = true ∧ (toP d).canLay0 = true ∧ (toP d).depth = 0) : okEq (.lst (d :: r)) = okEq (.lst r) := by
  obtain ⟨h1, h2, h3⟩ := h
  simp only [okEq, SeqAt.shaped, plain, plains, toP, toPs, PyData.canLay0, PyData.canLayAll0, PyData.depth, PyData.depthAll, h1, h2, h3, Bool.true_and, Nat.zero_max]
theorem eqPL_atom {d e : D} {r s : List D} {c : Bool} (h : plain d = true ∧ (toP d).canLay0 = true ∧ (toP d).depth = 0) (g : plain e = true ∧ (toP e).canLay0 = true ∧ (toP e).depth = 0) (hc : PyData.eqv (toP d) (toP e) = c) :
    eqP (.lst (d :: r)) (.lst (e :: s)) = (eqP (.lst r) (.lst s)).map fun b => c && b := by
  have l : ∀ xs ys : List D, eqP (.lst xs) (.lst ys) = if okEq (.lst xs) && okEq (.lst ys) then some (PyData.eqvAll (toPs xs) (toPs ys)) else none := fun xs ys => by
    show (if okEq (.lst xs) && okEq (.lst ys) then some (PyData.eqv (toP (.lst xs)) (toP (.lst ys))) else none) = _
    simp only [toP, PyData.eqv]
  rw [l, l, okEq_atom h, okEq_atom g]
  simp only [toPs, PyData.eqvAll, hc]
  split <;> rfl
theorem eqPL_nil : eqP (.lst []) (.lst []) = some true := rfl
theorem eqPL_bl {a b : Bool} {r s : List D} : eqP (.lst (.bl a :: r)) (.lst (.bl b :: s)) = (eqP (.lst r) (.lst s)).map fun c => decide (a = b) && c := eqPL_atom ⟨rfl, rfl, rfl⟩ ⟨rfl, rfl, rfl⟩ (Enc.bl.inj a b)
theorem eqPL_int {a b : Int} {r s : List D} : eqP (.lst (.int a :: r)) (.lst (.int b :: s)) = (eqP (.lst r) (.lst s)).map fun c => decide (a = b) && c := eqPL_atom ⟨rfl, rfl, rfl⟩ ⟨rfl, rfl, rfl⟩ (Enc.int.inj a b)
theorem am_atom (a : Am) : plain (am a) = true ∧ (toP (am a)).canLay0 = true ∧ (toP (am a)).depth = 0 := by cases a <;> exact ⟨rfl, rfl, rfl⟩
theorem eqPL_am {a b : Am} {r s : List D} : eqP (.lst (am a :: r)) (.lst (am b :: s)) = (eqP (.lst r) (.lst s)).map fun c => decide (a = b) && c := eqPL_atom (am_atom a) (am_atom b) (Enc.am.inj a b)
theorem am_add_ai {A : Type} {i j : Int} {ε : Ev} {κ : D → Ev → Option A} : Z.h2 .add (am (some i)) (.int j) ε κ = κ (am (some (i + j))) ε := rfl
theorem am_add_ia {A : Type} {i j : Int} {ε : Ev} {κ : D → Ev → Option A} : Z.h2 .add (.int i) (am (some j)) ε κ = κ (am (some (i + j))) ε := rfl
theorem am_add_aa {A : Type} {i j : Int} {ε : Ev} {κ : D → Ev → Option A} : Z.h2 .add (am (some i)) (am (some j)) ε κ = κ (am (some (i + j))) ε := rfl
theorem am_sub_ai {A : Type} {i j : Int} {ε : Ev} {κ : D → Ev → Option A} : Z.h2 .sub (am (some i)) (.int j) ε κ = κ (am (some (i - j))) ε := rfl
theorem am_sub_ia {A : Type} {i j : Int} {ε : Ev} {κ : D → Ev → Option A} : Z.h2 .sub (.int i) (am (some j)) ε κ = κ (am (some (i - j))) ε := rfl
theorem am_sub_aa {A : Type} {i j : Int} {ε : Ev} {κ : D → Ev → Option A} : Z.h2 .sub (am (some i)) (am (some j)) ε κ = κ (am (some (i - j))) ε := rfl
theorem am_lt_ai {A : Type} {i j : Int} {ε : Ev} {κ : D → Ev → Option A} : Z.h2 .lt (am (some i)) (.int j) ε κ = κ (.bl (decide (i < j))) ε := rfl
theorem am_lt_ia {A : Type} {i j : Int} {ε : Ev} {κ : D → Ev → Option A} : Z.h2 .lt (.int i) (am (some j)) ε κ = κ (.bl (decide (i < j))) ε := rfl
theorem am_lt_aa {A : Type} {i j : Int} {ε : Ev} {κ : D → Ev → Option A} : Z.h2 .lt (am (some i)) (am (some j)) ε κ = κ (.bl (decide (i < j))) ε := rfl
theorem am_le_ai {A : Type} {i j : Int} {ε : Ev} {κ : D → Ev → Option A} : Z.h2 .le (am (some i)) (.int j) ε κ = κ (.bl (decide (i ≤ j))) ε := rfl
theorem am_le_ia {A : Type} {i j : Int} {ε : Ev} {κ : D → Ev → Option A} : Z.h2 .le (.int i) (am (some j)) ε κ = κ (.bl (decide (i ≤ j))) ε := rfl
theorem am_le_aa {A : Type} {i j : Int} {ε : Ev} {κ : D → Ev → Option A} : Z.h2 .le (am (some i)) (am (some j)) ε κ = κ (.bl (decide (i ≤ j))) ε := rfl
theorem am_gt_ai {A : Type} {i j : Int} {ε : Ev} {κ : D → Ev → Option A} : Z.h2 .gt (am (some i)) (.int j) ε κ = κ (.bl (decide (j < i))) ε := rfl
theorem am_gt_ia {A : Type} {i j : Int} {ε : Ev} {κ : D → Ev → Option A} : Z.h2 .gt (.int i) (am (some j)) ε κ = κ (.bl (decide (j < i))) ε := rfl
theorem am_gt_aa {A : Type} {i j : Int} {ε : Ev} {κ : D → Ev → Option A} : Z.h2 .gt (am (some i)) (am (some j)) ε κ = κ (.bl (decide (j < i))) ε := rfl
theorem am_ge_ai {A : Type} {i j : Int} {ε : Ev} {κ : D → Ev → Option A} : Z.h2 .ge (am (some i)) (.int j) ε κ = κ (.bl (decide (j ≤ i))) ε := rfl
theorem am_ge_ia {A : Type} {i j : Int} {ε : Ev} {κ : D → Ev → Option A} : Z.h2 .ge (.int i) (am (some j)) ε κ = κ (.bl (decide (j ≤ i))) ε := rfl
theorem am_ge_aa {A : Type} {i j : Int} {ε : Ev} {κ : D → Ev → Option A} : Z.h2 .ge (am (some i)) (am (some j)) ε κ = κ (.bl (decide (j ≤ i))) ε := rfl
theorem am_int_ {A : Type} {i : Int} {ε : Ev} {κ : D → Ev → Option A} : Z.h1 .int_ (am (some i)) ε κ = κ (am (some i)) ε := rfl
def atMost : Am → Am → Bool
  | _, none => true
  | none, some _ => false
  | some a, some b => decide (a ≤ b)
def sh : Am → Int → Am
  | none, _ => none
  | some a, c => some (max 0 (a + c))
def okAm : Am → Prop
  | none => True
  | some a => 0 ≤ a
def lea (f o : Am) : Am := if atMost o f = true then o else f
def gre (f o : Am) : Am := if atMost f o = true then o else f
def leastOf (xs : List Am) : Am := xs.foldl lea (nth xs 0)
def greatestOf (xs : List Am) : Am := xs.foldl gre (nth xs 0)
/-- below B if it is a number -/
def ltA (B : Int) : Am → Prop
  | none => True
  | some a => 0 ≤ a ∧ a < B
theorem ltA.ok {B : Int} : ∀ {a : Am}, ltA B a → okAm a
  | none, _ => trivial
  | some _, h => h.1
theorem ltA.mono {B B' : Int} (h : B ≤ B') : ∀ {a : Am}, ltA B a → ltA B' a
  | none, _ => trivial
  | some _, g => ⟨g.1, by have := g.2; omega⟩
theorem Sz.am {a : Am} {B : Int} {m : Nat} (h : ltA B a) (hB : B ≤ 1000000000000) : Sz 0 m (VS.am a) := by
  cases a with
  | none => exact .non
  | some i => exact .int (by have := h.1; have := h.2; omega)
theorem atMost_refl : ∀ a : Am, atMost a a = true
  | none => rfl
  | some _ => decide_eq_true (Int.le_refl _)
theorem atMost_trans : ∀ {a b c : Am}, atMost a b = true → atMost b c = true → atMost a c = true
  | _, _, none, _, _ => rfl
  | none, none, some _, _, h => by cases h
  | none, some _, some _, h, _ => by cases h
  | some _, none, some _, _, h => by cases h
  | some _, some _, some _, h, g => decide_eq_true (Int.le_trans (of_decide_eq_true h) (of_decide_eq_true g))
theorem atMost_total : ∀ a b : Am, atMost a b = false → atMost b a = true
  | _, none, h => by cases h
  | none, some _, _ => rfl
  | some _, some _, h => decide_eq_true (by have := of_decide_eq_false h; omega)
theorem atMost_anti : ∀ {a b : Am}, atMost a b = true → atMost b a = true → a = b
  | none, none, _, _ => rfl
  | some _, none, _, h => by cases h
  | none, some _, h, _ => by cases h
  | some _, some _, h, g => by
    have h1 := of_decide_eq_true h
    have h2 := of_decide_eq_true g
    congr 1; omega

/-! ### flat formulas -/
inductive FF where
  | amount (a : Am) | least (arcs : List (Int × Int)) | greatest (arcs : List (Int × Int)) | when (j a k : Int)
  deriving DecidableEq, Inhabited
def arc (p : Int × Int) : D := .tup [.int p.1, .int p.2]
def ff : FF → D
  | .amount a => .tup [.str "amount", am a]
  | .least arcs => .tup [.str "least", .lst (arcs.map arc)]
  | .greatest arcs => .tup [.str "greatest", .lst (arcs.map arc)]
  | .when j a k => .tup [.str "when", .int j, .int a, .int k]
theorem ff_amount {a : Am} : ff (.amount a) = .tup [.str "amount", am a] := rfl
theorem ff_least {arcs : List (Int × Int)} : ff (.least arcs) = .tup [.str "least", .lst (arcs.map arc)] := rfl
theorem ff_greatest {arcs : List (Int × Int)} : ff (.greatest arcs) = .tup [.str "greatest", .lst (arcs.map arc)] := rfl
theorem ff_when {j a k : Int} : ff (.when j a k) = .tup [.str "when", .int j, .int a, .int k] := rfl
theorem Enc.arc : Enc arc 1 := Enc.int.pair Enc.int
theorem Enc.ff : Enc ff 3 := by
  have l := Enc.arc.lst
  refine ⟨fun f => ?_, fun f g => ?_⟩
  · cases f with
    | amount a => cases a <;> refine ⟨rfl, ?_, ?_⟩ <;> first | (simp only [VS.ff, VS.am, toP, toPs, PyData.canLay0, PyData.canLayAll0]; decide +kernel) | (simp only [VS.ff, VS.am, toP, toPs, PyData.depth, PyData.depthAll]; decide)
    | least arcs =>
      obtain ⟨a, b, c⟩ := l.ok arcs
      refine ⟨by simp only [plain] at a; simp only [VS.ff, plain, plains, a, Bool.and_self], ?_, ?_⟩
      · simp only [VS.ff, toP, toPs, PyData.canLay0, PyData.canLayAll0, Bool.and_true] at b ⊢
        rw [b]; decide +kernel
      · simp only [VS.ff, toP, toPs, PyData.depth, PyData.depthAll] at c ⊢
        omega
    | greatest arcs =>
      obtain ⟨a, b, c⟩ := l.ok arcs
      refine ⟨by simp only [plain] at a; simp only [VS.ff, plain, plains, a, Bool.and_self], ?_, ?_⟩
      · simp only [VS.ff, toP, toPs, PyData.canLay0, PyData.canLayAll0, Bool.and_true] at b ⊢
        rw [b]; decide +kernel
      · simp only [VS.ff, toP, toPs, PyData.depth, PyData.depthAll] at c ⊢
        omega
    | when j a k => refine ⟨rfl, ?_, ?_⟩ <;> first | (simp only [VS.ff, toP, toPs, PyData.canLay0, PyData.canLayAll0]; decide +kernel) | (simp only [VS.ff, toP, toPs, PyData.depth, PyData.depthAll]; decide)
  · have s : ∀ x y : Str, PyData.eqv (.str x) (.str y) = (x == y) := fun _ _ => rfl
    have w1 : (("amount" : Str) == ("amount" : Str)) = true := by decide +kernel
    have w2 : (("least" : Str) == ("least" : Str)) = true := by decide +kernel
    have w3 : (("greatest" : Str) == ("greatest" : Str)) = true := by decide +kernel
    have w4 : (("when" : Str) == ("when" : Str)) = true := by decide +kernel
    have v1 : (("amount" : Str) == ("least" : Str)) = false := by decide +kernel
    have v2 : (("amount" : Str) == ("greatest" : Str)) = false := by decide +kernel
    have v3 : (("amount" : Str) == ("when" : Str)) = false := by decide +kernel
    have v4 : (("least" : Str) == ("amount" : Str)) = false := by decide +kernel
    have v5 : (("least" : Str) == ("greatest" : Str)) = false := by decide +kernel
    have v6 : (("least" : Str) == ("when" : Str)) = false := by decide +kernel
    have v7 : (("greatest" : Str) == ("amount" : Str)) = false := by decide +kernel
    have v8 : (("greatest" : Str) == ("least" : Str)) = false := by decide +kernel
    have v9 : (("greatest" : Str) == ("when" : Str)) = false := by decide +kernel
    have v10 : (("when" : Str) == ("amount" : Str)) = false := by decide +kernel
    have v11 : (("when" : Str) == ("least" : Str)) = false := by decide +kernel
    have v12 : (("when" : Str) == ("greatest" : Str)) = false := by decide +kernel
    have li : ∀ xs ys : List (Int × Int), PyData.eqv (toP (.lst (xs.map VS.arc))) (toP (.lst (ys.map VS.arc))) = decide (xs = ys) := l.inj
    have ai : ∀ a b : Am, PyData.eqv (toP (VS.am a)) (toP (VS.am b)) = decide (a = b) := Enc.am.inj
    have ii : ∀ a b : Int, PyData.eqv (toP (.int a)) (toP (.int b)) = decide (a = b) := Enc.int.inj
    have ts : ∀ x, toP (.str x) = .str x := fun _ => rfl
    cases f <;> cases g <;> simp only [VS.ff, toPs, PyData.eqvAll, toP.eq_6, PyData.eqv, ts, s, w1, w2, w3, w4, v1, v2, v3, v4, v5, v6, v7, v8, v9, v10, v11, v12, li, ai, ii, Bool.true_and, Bool.false_and, Bool.and_true, FF.amount.injEq, FF.least.injEq, FF.greatest.injEq, FF.when.injEq, reduceCtorEq, decide_false, Bool.decide_and]
theorem eqP_ff {a b : FF} : eqP (ff a) (ff b) = some (decide (a = b)) := Enc.ff.eqP (by decide) a b
theorem eqP_ffs {a b : List FF} : eqP (.lst (a.map ff)) (.lst (b.map ff)) = some (decide (a = b)) := Enc.ff.lst.eqP (by decide) a b
theorem eqP_arcs {a b : List (Int × Int)} : eqP (.lst (a.map arc)) (.lst (b.map arc)) = some (decide (a = b)) := Enc.arc.lst.eqP (by decide) a b
theorem eqP_ints {a b : List Int} : eqP (.lst (a.map .int)) (.lst (b.map .int)) = some (decide (a = b)) := Enc.int.lst.eqP (by decide) a b
theorem inP_int {a : Int} {xs : List Int} : inP (.int a) (xs.map .int) = some (memB a xs) := Enc.int.inP (by decide) a xs
theorem inP_am {a : Am} {xs : List Am} : inP (am a) (xs.map am) = some (memB a xs) := Enc.am.inP (by decide) a xs
theorem eqP_bls {a b : List Bool} : eqP (.lst (a.map .bl)) (.lst (b.map .bl)) = some (decide (a = b)) := Enc.bl.lst.eqP (by decide) a b
def fval (x : List Am) : FF → Am
  | .amount a => a
  | .least arcs => leastOf (arcs.map fun p => sh (nth x p.1) p.2)
  | .greatest arcs => greatestOf (arcs.map fun p => sh (nth x p.1) p.2)
  | .when j a k => if atMost (some a) (nth x j) = true then nth x k else some 0
def fvals (fs : List FF) (x : List Am) : List Am := fs.map (fval x)
/-- a flat formula of a sheet of n cells -/
def okF (n : Nat) : FF → Prop
  | .amount a => okAm a
  | .least arcs => 0 < arcs.length ∧ arcs.length ≤ 6 ∧ ∀ p ∈ arcs, 0 ≤ p.1 ∧ p.1 < n
  | .greatest arcs => 0 < arcs.length ∧ arcs.length ≤ 6 ∧ ∀ p ∈ arcs, 0 ≤ p.1 ∧ p.1 < n
  | .when j _ k => (0 ≤ j ∧ j < n) ∧ 0 ≤ k ∧ k < n
/-- numbers below A, shifts below B either way -/
def ltF (A B : Int) : FF → Prop
  | .amount a => ltA A a
  | .least arcs => ∀ p ∈ arcs, -B < p.2 ∧ p.2 < B
  | .greatest arcs => ∀ p ∈ arcs, -B < p.2 ∧ p.2 < B
  | .when _ a _ => 0 < a ∧ a < A
theorem Sz.arc {n : Nat} {B : Int} {p : Int × Int} (hn : n ≤ 100000) (hB : B ≤ 1000000) (h : 0 ≤ p.1 ∧ p.1 < n) (g : -B < p.2 ∧ p.2 < B) : Sz 2 1 (VS.arc p) := (Sz.int (by omega)).tup2 (Sz.int (by omega))
theorem Sz.ff {n : Nat} {A B : Int} {f : FF} (hn : n ≤ 100000) (hA : A ≤ 1000000) (hB : B ≤ 1000000) (h : okF n f) (g : ltF A B f) : Sz 40 3 (VS.ff f) := by
  have w : ∀ x : Str, (PyData.strOk x && x.cps.toList.all fun c => decide (c < 16 ^ 8)) = true → x.cps.size ≤ 8 → Sz 8 2 (.str x) := fun x h1 h2 => ⟨h1, h2, Nat.zero_le _⟩
  cases f with
  | amount a => exact ((w _ (by decide +kernel) (by decide +kernel)).tup2 (Sz.am g (by omega))).mono (by omega) (by omega)
  | least arcs => exact ((w _ (by decide +kernel) (by decide +kernel)).tup2 (Sz.lst (fun p hp => Sz.arc hn hB (h.2.2 p hp) (g p hp)) h.2.1)).mono (by omega) (by omega)
  | greatest arcs => exact ((w _ (by decide +kernel) (by decide +kernel)).tup2 (Sz.lst (fun p hp => Sz.arc hn hB (h.2.2 p hp) (g p hp)) h.2.1)).mono (by omega) (by omega)
  | when j a k => exact ((w _ (by decide +kernel) (by decide +kernel)).tup4 (Sz.int (by have := h.1; omega)) (Sz.int (by have := g.1; have := g.2; omega)) (Sz.int (by have := h.2; omega))).mono (by omega) (by omega)
end VS

namespace C
open PySem
def t__law_draw : VS.Df := { name := "_law_draw", ms := [.O, .B], fr := false, N := ["_law_stream", "_law_many", "_law_cell", "_law_mixed", "_law_other", "_law_value_here"], body := (.cons (.ifs (.p2 .lt (.p2 .idx (.var 0) (.int 2)) (.var 1)) (.cons (.set false 2 (.int 0)) (.cons (.ifs (.p2 .lt (.p2 .idx (.var 0) (.int 1)) (.p1 .len (.p2 .idx (.var 0) (.int 0)))) (.cons (.set false 2 (.p2 .idx (.p2 .idx (.var 0) (.int 0)) (.p2 .idx (.var 0) (.int 1)))) .nil) .nil) (.cons (.sub 0 (.int 1) (.p2 .add (.p2 .idx (.var 0) (.int 1)) (.int 1))) (.cons (.sub 0 (.int 2) (.var 2)) (.cons (.ifs (.p2 .lt (.var 2) (.p2 .pow (.int 10) (.int 18))) (.cons (.set false 3 (.p2 .mod (.p1 .int_ (.p2 .add (.p2 .mul (.var 2) (.int 48271)) (.p2 .mul (.p2 .idx (.var 0) (.int 1)) (.int 69621)))) (.int 2147483647))) (.cons (.set false 4 (.p2 .mod (.p1 .int_ (.p2 .add (.p2 .add (.p2 .mul (.var 3) (.int 40692)) (.p2 .mul (.var 2) (.int 7))) (.int 5))) (.int 2147483399))) (.cons (.sub 0 (.int 2) (.p2 .add (.p2 .add (.p2 .mul (.var 4) (.int 2147483563)) (.var 3)) (.p2 .pow (.int 10) (.int 18)))) .nil))) .nil) .nil))))) .nil) (.cons (.set false 5 (.p2 .mod (.p1 .int_ (.p2 .idx (.var 0) (.int 2))) (.var 1))) (.cons (.sub 0 (.int 2) (.p2 .fdiv (.p1 .int_ (.p2 .idx (.var 0) (.int 2))) (.var 1))) (.cons (.ret (.var 5)) .nil)))) }
theorem m__law_draw : t__law_draw.ms = [VS.Md.O, VS.Md.B] := rfl
def H__law_draw (T : VS.Tb) : Prop := T 68 = some t__law_draw
theorem h__law_draw {T : VS.Tb} (h : H__law_draw T) : T 68 = some t__law_draw := h
def t__law_amount_2 : VS.Df := { name := "_law_amount", ms := [.O, .B], fr := false, N := ["_law_stream", "_law_most_here"], body := (.cons (.ifs (.p2 .eq (.call 68 (.cons (.var 0) (.cons (.int 12) .nil))) (.int 0)) (.cons (.ret .non) .nil) .nil) (.cons (.ret (.call 68 (.cons (.var 0) (.cons (.var 1) .nil)))) .nil)) }
theorem m__law_amount_2 : t__law_amount_2.ms = [VS.Md.O, VS.Md.B] := rfl
def H__law_amount_2 (T : VS.Tb) : Prop := T 69 = some t__law_amount_2 ∧ H__law_draw T
theorem h__law_amount_2 {T : VS.Tb} (h : H__law_amount_2 T) : T 69 = some t__law_amount_2 := h.1
theorem H__law_amount_2__law_draw {T : VS.Tb} (h : H__law_amount_2 T) : H__law_draw T := h.2
def t__law_arcs_2 : VS.Df := { name := "_law_arcs", ms := [.O, .B], fr := true, N := ["_law_stream", "_law_many", "_law_found", "_law_turn"], body := (.cons (.set true 2 (.lst .nil)) (.cons (.fors [3] (.nm 3) (.rng1 (.p2 .idx (.lst (.cons (.int 1) (.cons (.int 2) (.cons (.int 2) (.cons (.int 3) (.cons (.int 2) (.cons (.int 6) .nil))))))) (.call 68 (.cons (.var 0) (.cons (.int 6) .nil))))) (.cons (.app 2 (.tup (.cons (.call 68 (.cons (.var 0) (.cons (.var 1) .nil))) (.cons (.p2 .idx (.lst (.cons (.int 0) (.cons (.int 1) (.cons (.p1 .neg (.int 1)) (.cons (.int 2) (.cons (.int 0) (.cons (.p1 .neg (.int 2)) (.cons (.int 5) (.cons (.p1 .neg (.int 4)) (.cons (.int 3) .nil)))))))))) (.call 68 (.cons (.var 0) (.cons (.int 9) .nil)))) .nil)))) .nil)) (.cons (.retO 2) .nil))) }
theorem m__law_arcs_2 : t__law_arcs_2.ms = [VS.Md.O, VS.Md.B] := rfl
def H__law_arcs_2 (T : VS.Tb) : Prop := T 70 = some t__law_arcs_2 ∧ H__law_draw T
theorem h__law_arcs_2 {T : VS.Tb} (h : H__law_arcs_2 T) : T 70 = some t__law_arcs_2 := h.1
theorem H__law_arcs_2__law_draw {T : VS.Tb} (h : H__law_arcs_2 T) : H__law_draw T := h.2
def t__law_formula_3 : VS.Df := { name := "_law_formula", ms := [.O, .B], fr := false, N := ["_law_stream", "_law_many", "_law_kind"], body := (.cons (.set false 2 (.p2 .idx (.lst (.cons (.str "amount") (.cons (.str "amount") (.cons (.str "least") (.cons (.str "least") (.cons (.str "least") (.cons (.str "greatest") (.cons (.str "greatest") (.cons (.str "greatest") (.cons (.str "when") .nil)))))))))) (.call 68 (.cons (.var 0) (.cons (.int 9) .nil))))) (.cons (.ifs (.p2 .eq (.var 2) (.str "amount")) (.cons (.ret (.tup (.cons (.str "amount") (.cons (.call 69 (.cons (.var 0) (.cons (.int 12) .nil))) .nil)))) .nil) .nil) (.cons (.ifs (.p2 .eq (.var 2) (.str "when")) (.cons (.ret (.tup (.cons (.str "when") (.cons (.call 68 (.cons (.var 0) (.cons (.var 1) .nil))) (.cons (.p2 .add (.int 1) (.call 68 (.cons (.var 0) (.cons (.int 8) .nil)))) (.cons (.call 68 (.cons (.var 0) (.cons (.var 1) .nil))) .nil)))))) .nil) .nil) (.cons (.ret (.tup (.cons (.var 2) (.cons (.call 70 (.cons (.var 0) (.cons (.var 1) .nil))) .nil)))) .nil)))) }
theorem m__law_formula_3 : t__law_formula_3.ms = [VS.Md.O, VS.Md.B] := rfl
def H__law_formula_3 (T : VS.Tb) : Prop := T 71 = some t__law_formula_3 ∧ H__law_draw T ∧ H__law_amount_2 T ∧ H__law_arcs_2 T
theorem h__law_formula_3 {T : VS.Tb} (h : H__law_formula_3 T) : T 71 = some t__law_formula_3 := h.1
theorem H__law_formula_3__law_draw {T : VS.Tb} (h : H__law_formula_3 T) : H__law_draw T := h.2.1
theorem H__law_formula_3__law_amount_2 {T : VS.Tb} (h : H__law_formula_3 T) : H__law_amount_2 T := h.2.2.1
theorem H__law_formula_3__law_arcs_2 {T : VS.Tb} (h : H__law_formula_3 T) : H__law_arcs_2 T := h.2.2.2
def t__law_flat_2 : VS.Df := { name := "_law_flat", ms := [.O, .B], fr := true, N := ["_law_stream", "_law_most_here", "_law_many", "_law_cell"], body := (.cons (.set false 2 (.p2 .add (.int 1) (.call 68 (.cons (.var 0) (.cons (.var 1) .nil))))) (.cons (.ifs (.p2 .eq (.call 68 (.cons (.var 0) (.cons (.int 16) .nil))) (.int 0)) (.cons (.set false 2 (.p2 .add (.var 1) (.int 6))) .nil) .nil) (.cons (.ret (.comp [3] (.nm 3) (.rng1 (.var 2)) (.bl true) (.call 71 (.cons (.var 0) (.cons (.var 2) .nil))))) .nil))) }
theorem m__law_flat_2 : t__law_flat_2.ms = [VS.Md.O, VS.Md.B] := rfl
def H__law_flat_2 (T : VS.Tb) : Prop := T 72 = some t__law_flat_2 ∧ H__law_draw T ∧ H__law_formula_3 T
theorem h__law_flat_2 {T : VS.Tb} (h : H__law_flat_2 T) : T 72 = some t__law_flat_2 := h.1
theorem H__law_flat_2__law_draw {T : VS.Tb} (h : H__law_flat_2 T) : H__law_draw T := h.2.1
theorem H__law_flat_2__law_formula_3 {T : VS.Tb} (h : H__law_flat_2 T) : H__law_formula_3 T := h.2.2
def t__law_most : VS.Df := { name := "_law_most", ms := [.B, .B], fr := false, N := ["_law_a", "_law_b"], body := (.cons (.ret (.or_ (.p1 .isN (.var 1)) (.and_ (.p1 .notN (.var 0)) (.p2 .le (.var 0) (.var 1))))) .nil) }
theorem m__law_most : t__law_most.ms = [VS.Md.B, VS.Md.B] := rfl
def H__law_most (T : VS.Tb) : Prop := T 73 = some t__law_most
theorem h__law_most {T : VS.Tb} (h : H__law_most T) : T 73 = some t__law_most := h
def t__law_shift : VS.Df := { name := "_law_shift", ms := [.B, .B], fr := false, N := ["_law_a", "_law_c"], body := (.cons (.ifs (.p1 .isN (.var 0)) (.cons (.ret .non) .nil) .nil) (.cons (.ret (.p1 .maxL (.lst (.cons (.int 0) (.cons (.p2 .add (.var 0) (.var 1)) .nil))))) .nil)) }
theorem m__law_shift : t__law_shift.ms = [VS.Md.B, VS.Md.B] := rfl
def H__law_shift (T : VS.Tb) : Prop := T 74 = some t__law_shift
theorem h__law_shift {T : VS.Tb} (h : H__law_shift T) : T 74 = some t__law_shift := h
def t__law_value_2 : VS.Df := { name := "_law_value", ms := [.B, .B], fr := false, N := ["_law_formula_here", "_law_x", "_law_found", "_law_cell", "_law_shift_here", "_law_best", "_law_one"], body := (.cons (.ifs (.p2 .eq (.p2 .idx (.var 0) (.int 0)) (.str "amount")) (.cons (.ret (.p2 .idx (.var 0) (.int 1))) .nil) .nil) (.cons (.ifs (.p2 .eq (.p2 .idx (.var 0) (.int 0)) (.str "when")) (.cons (.ifs (.call 73 (.cons (.p2 .idx (.var 0) (.int 2)) (.cons (.p2 .idx (.var 1) (.p2 .idx (.var 0) (.int 1))) .nil))) (.cons (.ret (.p2 .idx (.var 1) (.p2 .idx (.var 0) (.int 3)))) .nil) .nil) (.cons (.ret (.int 0)) .nil)) .nil) (.cons (.set false 2 (.comp [3, 4] (.tp (.nm 3) (.nm 4)) (.seq (.p2 .idx (.var 0) (.int 1))) (.bl true) (.call 74 (.cons (.p2 .idx (.var 1) (.var 3)) (.cons (.var 4) .nil))))) (.cons (.set false 5 (.p2 .idx (.var 2) (.int 0))) (.cons (.fors [6] (.nm 6) (.seq (.var 2)) (.cons (.ifs (.or_ (.and_ (.p2 .eq (.p2 .idx (.var 0) (.int 0)) (.str "least")) (.call 73 (.cons (.var 6) (.cons (.var 5) .nil)))) (.and_ (.p2 .eq (.p2 .idx (.var 0) (.int 0)) (.str "greatest")) (.call 73 (.cons (.var 5) (.cons (.var 6) .nil))))) (.cons (.set false 5 (.var 6)) .nil) .nil) .nil)) (.cons (.ret (.var 5)) .nil)))))) }
theorem m__law_value_2 : t__law_value_2.ms = [VS.Md.B, VS.Md.B] := rfl
def H__law_value_2 (T : VS.Tb) : Prop := T 75 = some t__law_value_2 ∧ H__law_most T ∧ H__law_shift T
theorem h__law_value_2 {T : VS.Tb} (h : H__law_value_2 T) : T 75 = some t__law_value_2 := h.1
theorem H__law_value_2__law_most {T : VS.Tb} (h : H__law_value_2 T) : H__law_most T := h.2.1
theorem H__law_value_2__law_shift {T : VS.Tb} (h : H__law_value_2 T) : H__law_shift T := h.2.2
def t__law_round : VS.Df := { name := "_law_round", ms := [.B, .B], fr := true, N := ["_law_flat_here", "_law_x", "_law_formula_here"], body := (.cons (.ret (.comp [2] (.nm 2) (.seq (.var 0)) (.bl true) (.call 75 (.cons (.var 2) (.cons (.var 1) .nil))))) .nil) }
theorem m__law_round : t__law_round.ms = [VS.Md.B, VS.Md.B] := rfl
def H__law_round (T : VS.Tb) : Prop := T 76 = some t__law_round ∧ H__law_value_2 T
theorem h__law_round {T : VS.Tb} (h : H__law_round T) : T 76 = some t__law_round := h.1
theorem H__law_round__law_value_2 {T : VS.Tb} (h : H__law_round T) : H__law_value_2 T := h.2
def t__law_all_most : VS.Df := { name := "_law_all_most", ms := [.B, .B], fr := false, N := ["_law_x", "_law_y", "_law_cell"], body := (.cons (.ret (.p1 .all_ (.comp [2] (.nm 2) (.rng1 (.p1 .len (.var 0))) (.bl true) (.call 73 (.cons (.p2 .idx (.var 0) (.var 2)) (.cons (.p2 .idx (.var 1) (.var 2)) .nil)))))) .nil) }
theorem m__law_all_most : t__law_all_most.ms = [VS.Md.B, VS.Md.B] := rfl
def H__law_all_most (T : VS.Tb) : Prop := T 79 = some t__law_all_most ∧ H__law_most T
theorem h__law_all_most {T : VS.Tb} (h : H__law_all_most T) : T 79 = some t__law_all_most := h.1
theorem H__law_all_most__law_most {T : VS.Tb} (h : H__law_all_most T) : H__law_most T := h.2
def t_at_most : VS.Df := { name := "at_most", ms := [.B, .B], fr := false, N := ["a", "b"], body := (.cons (.ifs (.p1 .isN (.var 1)) (.cons (.ret (.bl true)) .nil) .nil) (.cons (.ret (.and_ (.p1 .notN (.var 0)) (.p2 .le (.var 0) (.var 1)))) .nil)) }
theorem m_at_most : t_at_most.ms = [VS.Md.B, VS.Md.B] := rfl
def H_at_most (T : VS.Tb) : Prop := T 6 = some t_at_most
theorem h_at_most {T : VS.Tb} (h : H_at_most T) : T 6 = some t_at_most := h
def t_shifted : VS.Df := { name := "shifted", ms := [.B, .B], fr := false, N := ["a", "c"], body := (.cons (.ifs (.p1 .isN (.var 0)) (.cons (.ret .non) .nil) .nil) (.cons (.ret (.p2 .max2 (.int 0) (.p2 .add (.var 0) (.var 1)))) .nil)) }
theorem m_shifted : t_shifted.ms = [VS.Md.B, VS.Md.B] := rfl
def H_shifted (T : VS.Tb) : Prop := T 7 = some t_shifted
theorem h_shifted {T : VS.Tb} (h : H_shifted T) : T 7 = some t_shifted := h
def t_least_of : VS.Df := { name := "least_of", ms := [.B], fr := false, N := ["amounts", "found", "one"], body := (.cons (.set false 1 (.p2 .idx (.var 0) (.int 0))) (.cons (.fors [2] (.nm 2) (.seq (.var 0)) (.cons (.ifs (.call 6 (.cons (.var 2) (.cons (.var 1) .nil))) (.cons (.set false 1 (.var 2)) .nil) .nil) .nil)) (.cons (.ret (.var 1)) .nil))) }
theorem m_least_of : t_least_of.ms = [VS.Md.B] := rfl
def H_least_of (T : VS.Tb) : Prop := T 10 = some t_least_of ∧ H_at_most T
theorem h_least_of {T : VS.Tb} (h : H_least_of T) : T 10 = some t_least_of := h.1
theorem H_least_of_at_most {T : VS.Tb} (h : H_least_of T) : H_at_most T := h.2
def t_greatest_of : VS.Df := { name := "greatest_of", ms := [.B], fr := false, N := ["amounts", "found", "one"], body := (.cons (.set false 1 (.p2 .idx (.var 0) (.int 0))) (.cons (.fors [2] (.nm 2) (.seq (.var 0)) (.cons (.ifs (.call 6 (.cons (.var 1) (.cons (.var 2) .nil))) (.cons (.set false 1 (.var 2)) .nil) .nil) .nil)) (.cons (.ret (.var 1)) .nil))) }
theorem m_greatest_of : t_greatest_of.ms = [VS.Md.B] := rfl
def H_greatest_of (T : VS.Tb) : Prop := T 11 = some t_greatest_of ∧ H_at_most T
theorem h_greatest_of {T : VS.Tb} (h : H_greatest_of T) : T 11 = some t_greatest_of := h.1
theorem H_greatest_of_at_most {T : VS.Tb} (h : H_greatest_of T) : H_at_most T := h.2
def t_flat_value : VS.Df := { name := "flat_value", ms := [.B, .B], fr := false, N := ["formula", "x", "kind", "amounts", "cell", "shift"], body := (.cons (.set false 2 (.p2 .idx (.var 0) (.int 0))) (.cons (.ifs (.p2 .eq (.var 2) (.str "amount")) (.cons (.ret (.p2 .idx (.var 0) (.int 1))) .nil) .nil) (.cons (.ifs (.p2 .eq (.var 2) (.str "when")) (.cons (.ret (.ife (.call 6 (.cons (.p2 .idx (.var 0) (.int 2)) (.cons (.p2 .idx (.var 1) (.p2 .idx (.var 0) (.int 1))) .nil))) (.p2 .idx (.var 1) (.p2 .idx (.var 0) (.int 3))) (.int 0))) .nil) .nil) (.cons (.set false 3 (.comp [4, 5] (.tp (.nm 4) (.nm 5)) (.seq (.p2 .idx (.var 0) (.int 1))) (.bl true) (.call 7 (.cons (.p2 .idx (.var 1) (.var 4)) (.cons (.var 5) .nil))))) (.cons (.ifs (.p2 .eq (.var 2) (.str "least")) (.cons (.ret (.call 10 (.cons (.var 3) .nil))) .nil) .nil) (.cons (.ret (.call 11 (.cons (.var 3) .nil))) .nil)))))) }
theorem m_flat_value : t_flat_value.ms = [VS.Md.B, VS.Md.B] := rfl
def H_flat_value (T : VS.Tb) : Prop := T 46 = some t_flat_value ∧ H_at_most T ∧ H_shifted T ∧ H_least_of T ∧ H_greatest_of T
theorem h_flat_value {T : VS.Tb} (h : H_flat_value T) : T 46 = some t_flat_value := h.1
theorem H_flat_value_at_most {T : VS.Tb} (h : H_flat_value T) : H_at_most T := h.2.1
theorem H_flat_value_shifted {T : VS.Tb} (h : H_flat_value T) : H_shifted T := h.2.2.1
theorem H_flat_value_least_of {T : VS.Tb} (h : H_flat_value T) : H_least_of T := h.2.2.2.1
theorem H_flat_value_greatest_of {T : VS.Tb} (h : H_flat_value T) : H_greatest_of T := h.2.2.2.2
def t_flat_values : VS.Df := { name := "flat_values", ms := [.B, .B], fr := true, N := ["flat", "x", "formula"], body := (.cons (.ret (.comp [2] (.nm 2) (.seq (.var 0)) (.bl true) (.call 46 (.cons (.var 2) (.cons (.var 1) .nil))))) .nil) }
theorem m_flat_values : t_flat_values.ms = [VS.Md.B, VS.Md.B] := rfl
def H_flat_values (T : VS.Tb) : Prop := T 47 = some t_flat_values ∧ H_flat_value T
theorem h_flat_values {T : VS.Tb} (h : H_flat_values T) : T 47 = some t_flat_values := h.1
theorem H_flat_values_flat_value {T : VS.Tb} (h : H_flat_values T) : H_flat_value T := h.2
def t_rounds_from : VS.Df := { name := "rounds_from", ms := [.B, .S, .S], fr := true, N := ["flat", "x", "rounds", "found", "_"], body := (.cons (.set true 3 (.lst (.cons (.var 1) .nil))) (.cons (.fors [4] (.nm 4) (.rng1 (.var 2)) (.cons (.app 3 (.call 47 (.cons (.var 0) (.cons (.p2 .idx (.var 3) (.p1 .neg (.int 1))) .nil)))) .nil)) (.cons (.retO 3) .nil))) }
theorem m_rounds_from : t_rounds_from.ms = [VS.Md.B, VS.Md.S, VS.Md.S] := rfl
def H_rounds_from (T : VS.Tb) : Prop := T 229 = some t_rounds_from ∧ H_flat_values T
theorem h_rounds_from {T : VS.Tb} (h : H_rounds_from T) : T 229 = some t_rounds_from := h.1
theorem H_rounds_from_flat_values {T : VS.Tb} (h : H_rounds_from T) : H_flat_values T := h.2
def t_from_above : VS.Df := { name := "from_above", ms := [.B, .S], fr := false, N := ["flat", "rounds"], body := (.cons (.ret (.p2 .idx (.call 229 (.cons (.var 0) (.cons (.p2 .mul (.lst (.cons .non .nil)) (.p1 .len (.var 0))) (.cons (.var 1) .nil)))) (.p1 .neg (.int 1)))) .nil), np := 1 }
theorem m_from_above : t_from_above.ms = [VS.Md.B, VS.Md.S] := rfl
def H_from_above (T : VS.Tb) : Prop := T 232 = some t_from_above ∧ H_rounds_from T
theorem h_from_above {T : VS.Tb} (h : H_from_above T) : T 232 = some t_from_above := h.1
theorem H_from_above_rounds_from {T : VS.Tb} (h : H_from_above T) : H_rounds_from T := h.2
def t_from_above_nw : VS.Df := { name := "from_above", ms := [.B, .S], fr := true, N := ["flat", "rounds"], body := (.cons (.ret (.p2 .idx (.call 229 (.cons (.var 0) (.cons (.p2 .mul (.lst (.cons .non .nil)) (.p1 .len (.var 0))) (.cons (.var 1) .nil)))) (.p1 .neg (.int 1)))) .nil), np := 1, nw := true }
theorem m_from_above_nw : t_from_above_nw.ms = [VS.Md.B, VS.Md.S] := rfl
def H_from_above_nw (T : VS.Tb) : Prop := T 325 = some t_from_above_nw ∧ H_from_above T
theorem h_from_above_nw {T : VS.Tb} (h : H_from_above_nw T) : T 325 = some t_from_above_nw := h.1
theorem H_from_above_nw_from_above {T : VS.Tb} (h : H_from_above_nw T) : H_from_above T := h.2
def t__law_are_amounts_3 : VS.Df := { name := "_law_are_amounts", ms := [.B, .B], fr := true, N := ["_law_actual", "_law_many", "_law_one"], body := (.cons (.ifs (.or_ (.p1 .not_ (.p1 (.isT .list) (.var 0))) (.p2 .ne (.p1 .len (.var 0)) (.var 1))) (.cons (.ret (.bl false)) .nil) .nil) (.cons (.fors [2] (.nm 2) (.seq (.var 0)) (.cons (.ifs (.and_ (.p1 .notN (.var 2)) (.or_ (.p1 .not_ (.p1 (.isT .int) (.var 2))) (.or_ (.p1 (.isT .bool) (.var 2)) (.p2 .lt (.var 2) (.int 0))))) (.cons (.ret (.bl false)) .nil) .nil) .nil)) (.cons (.ret (.bl true)) .nil))) }
theorem m__law_are_amounts_3 : t__law_are_amounts_3.ms = [VS.Md.B, VS.Md.B] := rfl
def H__law_are_amounts_3 (T : VS.Tb) : Prop := T 231 = some t__law_are_amounts_3
theorem h__law_are_amounts_3 {T : VS.Tb} (h : H__law_are_amounts_3 T) : T 231 = some t__law_are_amounts_3 := h
def t_settled_at : VS.Df := { name := "settled_at", ms := [.B], fr := false, N := ["told", "place"], body := (.cons (.fors [1] (.nm 1) (.rng1 (.p2 .sub (.p1 .len (.var 0)) (.int 1))) (.cons (.ifs (.p2 .eq (.p2 .idx (.var 0) (.var 1)) (.p2 .idx (.var 0) (.p2 .add (.var 1) (.int 1)))) (.cons (.ret (.var 1)) .nil) .nil) .nil)) (.cons (.ret .non) .nil)) }
theorem m_settled_at : t_settled_at.ms = [VS.Md.B] := rfl
def H_settled_at (T : VS.Tb) : Prop := T 233 = some t_settled_at
theorem h_settled_at {T : VS.Tb} (h : H_settled_at T) : T 233 = some t_settled_at := h
def t_settled_from_below : VS.Df := { name := "settled_from_below", ms := [.B, .B], fr := false, N := ["flat", "rounds"], body := (.cons (.ret (.call 233 (.cons (.call 229 (.cons (.var 0) (.cons (.p2 .mul (.lst (.cons (.int 0) .nil)) (.p1 .len (.var 0))) (.cons (.p2 .add (.var 1) (.int 1)) .nil)))) .nil))) .nil), np := 1 }
theorem m_settled_from_below : t_settled_from_below.ms = [VS.Md.B, VS.Md.B] := rfl
def H_settled_from_below (T : VS.Tb) : Prop := T 234 = some t_settled_from_below ∧ H_settled_at T ∧ H_rounds_from T
theorem h_settled_from_below {T : VS.Tb} (h : H_settled_from_below T) : T 234 = some t_settled_from_below := h.1
theorem H_settled_from_below_settled_at {T : VS.Tb} (h : H_settled_from_below T) : H_settled_at T := h.2.1
theorem H_settled_from_below_rounds_from {T : VS.Tb} (h : H_settled_from_below T) : H_rounds_from T := h.2.2
def t_settled_from_above : VS.Df := { name := "settled_from_above", ms := [.B, .B], fr := false, N := ["flat", "rounds"], body := (.cons (.ret (.call 233 (.cons (.call 229 (.cons (.var 0) (.cons (.p2 .mul (.lst (.cons .non .nil)) (.p1 .len (.var 0))) (.cons (.p2 .add (.var 1) (.int 1)) .nil)))) .nil))) .nil), np := 1 }
theorem m_settled_from_above : t_settled_from_above.ms = [VS.Md.B, VS.Md.B] := rfl
def H_settled_from_above (T : VS.Tb) : Prop := T 235 = some t_settled_from_above ∧ H_settled_at T ∧ H_rounds_from T
theorem h_settled_from_above {T : VS.Tb} (h : H_settled_from_above T) : T 235 = some t_settled_from_above := h.1
theorem H_settled_from_above_settled_at {T : VS.Tb} (h : H_settled_from_above T) : H_settled_at T := h.2.1
theorem H_settled_from_above_rounds_from {T : VS.Tb} (h : H_settled_from_above T) : H_rounds_from T := h.2.2
def t__law_settled_4 : VS.Df := { name := "_law_settled", ms := [.B, .S, .B], fr := false, N := ["_law_flat_here", "_law_x", "_law_rounds", "_law_turn", "_law_later"], body := (.cons (.fors [3, 4] (.nm 3) (.rng1 (.p2 .add (.var 2) (.int 1))) (.cons (.set false 4 (.call 76 (.cons (.var 0) (.cons (.var 1) .nil)))) (.cons (.ifs (.p2 .eq (.var 4) (.var 1)) (.cons (.ret (.var 3)) .nil) .nil) (.cons (.set false 1 (.var 4)) .nil)))) (.cons (.ret .non) .nil)) }
theorem m__law_settled_4 : t__law_settled_4.ms = [VS.Md.B, VS.Md.S, VS.Md.B] := rfl
def H__law_settled_4 (T : VS.Tb) : Prop := T 330 = some t__law_settled_4 ∧ H__law_round T
theorem h__law_settled_4 {T : VS.Tb} (h : H__law_settled_4 T) : T 330 = some t__law_settled_4 := h.1
theorem H__law_settled_4__law_round {T : VS.Tb} (h : H__law_settled_4 T) : H__law_round T := h.2
def t_k17_law_2 : VS.Df := { name := "law", ms := [.S], fr := false, N := ["_law_script", "_law_stream", "_law_flat_here", "_law_kept", "_law_rounds", "_law_due", "_law_cell", "_law_turn", "_law_later", "_law_found", "_law_below", "_law_above", "_law_told"], body := (.cons (.set true 1 (.lst (.cons (.p1 .listOf (.var 0)) (.cons (.int 0) (.cons (.int 0) .nil))))) (.cons (.set false 2 (.call 72 (.cons (.var 1) (.cons (.int 6) .nil)))) (.cons (.set false 3 (.p1 .repr_ (.var 2))) (.cons (.set false 4 (.call 68 (.cons (.var 1) (.cons (.int 13) .nil)))) (.cons (.ifs (.p2 .eq (.call 68 (.cons (.var 1) (.cons (.int 10) .nil))) (.int 0)) (.cons (.set false 4 (.int 200)) .nil) .nil) (.cons (.set false 5 (.comp [6] (.nm 6) (.seq (.var 2)) (.bl true) .non)) (.cons (.fors [7, 8] (.nm 7) (.rng1 (.var 4)) (.cons (.set false 8 (.call 76 (.cons (.var 2) (.cons (.var 5) .nil)))) (.cons (.ifs (.p1 .not_ (.call 79 (.cons (.var 8) (.cons (.var 5) .nil)))) (.cons (.ret (.bl false)) .nil) .nil) (.cons (.set false 5 (.var 8)) .nil)))) (.cons (.set true 9 (.call 325 (.cons (.var 2) (.cons (.var 4) .nil)))) (.cons (.ifs (.or_ (.p1 .not_ (.call 231 (.cons (.var 9) (.cons (.p1 .len (.var 2)) .nil)))) (.p2 .ne (.var 9) (.var 5))) (.cons (.ret (.bl false)) .nil) .nil) (.cons (.clr 9) (.cons (.ifs (.p2 .ne (.call 232 (.cons (.var 2) (.cons (.var 4) .nil))) (.var 5)) (.cons (.ret (.bl false)) .nil) .nil) (.cons (.tgt (.tp (.nm 10) (.nm 11)) (.tup (.cons (.comp [6] (.nm 6) (.seq (.var 2)) (.bl true) (.int 0)) (.cons (.comp [6] (.nm 6) (.seq (.var 2)) (.bl true) .non) .nil)))) (.cons (.set false 12 (.lst (.cons (.call 234 (.cons (.var 2) (.cons (.var 4) .nil))) (.cons (.call 235 (.cons (.var 2) (.cons (.var 4) .nil))) .nil)))) (.cons (.ifs (.or_ (.p1 (.isT .bool) (.p2 .idx (.var 12) (.int 0))) (.p1 (.isT .bool) (.p2 .idx (.var 12) (.int 1)))) (.cons (.ret (.bl false)) .nil) .nil) (.cons (.ret (.and_ (.p2 .eq (.var 12) (.lst (.cons (.call 330 (.cons (.var 2) (.cons (.var 10) (.cons (.var 4) .nil)))) (.cons (.call 330 (.cons (.var 2) (.cons (.var 11) (.cons (.var 4) .nil)))) .nil)))) (.p2 .eq (.p1 .repr_ (.var 2)) (.var 3)))) .nil))))))))))))))) }
theorem m_k17_law_2 : t_k17_law_2.ms = [VS.Md.S] := rfl
def H_k17_law_2 (T : VS.Tb) : Prop := T 331 = some t_k17_law_2 ∧ H__law_flat_2 T ∧ H__law_draw T ∧ H__law_round T ∧ H__law_all_most T ∧ H_from_above_nw T ∧ H__law_are_amounts_3 T ∧ H_from_above T ∧ H_settled_from_below T ∧ H_settled_from_above T ∧ H__law_settled_4 T
theorem h_k17_law_2 {T : VS.Tb} (h : H_k17_law_2 T) : T 331 = some t_k17_law_2 := h.1
theorem H_k17_law_2__law_flat_2 {T : VS.Tb} (h : H_k17_law_2 T) : H__law_flat_2 T := h.2.1
theorem H_k17_law_2__law_draw {T : VS.Tb} (h : H_k17_law_2 T) : H__law_draw T := h.2.2.1
theorem H_k17_law_2__law_round {T : VS.Tb} (h : H_k17_law_2 T) : H__law_round T := h.2.2.2.1
theorem H_k17_law_2__law_all_most {T : VS.Tb} (h : H_k17_law_2 T) : H__law_all_most T := h.2.2.2.2.1
theorem H_k17_law_2_from_above_nw {T : VS.Tb} (h : H_k17_law_2 T) : H_from_above_nw T := h.2.2.2.2.2.1
theorem H_k17_law_2__law_are_amounts_3 {T : VS.Tb} (h : H_k17_law_2 T) : H__law_are_amounts_3 T := h.2.2.2.2.2.2.1
theorem H_k17_law_2_from_above {T : VS.Tb} (h : H_k17_law_2 T) : H_from_above T := h.2.2.2.2.2.2.2.1
theorem H_k17_law_2_settled_from_below {T : VS.Tb} (h : H_k17_law_2 T) : H_settled_from_below T := h.2.2.2.2.2.2.2.2.1
theorem H_k17_law_2_settled_from_above {T : VS.Tb} (h : H_k17_law_2 T) : H_settled_from_above T := h.2.2.2.2.2.2.2.2.2.1
theorem H_k17_law_2__law_settled_4 {T : VS.Tb} (h : H_k17_law_2 T) : H__law_settled_4 T := h.2.2.2.2.2.2.2.2.2.2
end C
set_option maxHeartbeats 1000000
local macro_rules | `(tactic| walk_at "v") => `(tactic| simp -implicitDefEqProofs (disch := ((try simp only [List.length_map, List.length_append, List.length_range, List.length_replicate, List.length_cons, List.length_nil, List.length_set, VS.lim]); omega)) only [↓VS.Z.e_var, ↓VS.Z.KR_eq, ↓VS.Z.e_non, ↓VS.Z.e_bl, ↓VS.Z.e_int, ↓VS.Z.e_str, ↓VS.Z.e_gint, ↓VS.Z.K1_eq, ↓VS.Z.e_p1, ↓VS.Z.K2c_eq, ↓VS.Z.K2b_eq, ↓VS.Z.K2a_eq, ↓VS.Z.e_p2, ↓VS.Z.Ksl4_eq, ↓VS.Z.Ksl3_eq, ↓VS.Z.Ksl2_eq, ↓VS.Z.Ksl1_eq, ↓VS.Z.e_slc, ↓VS.Z.Kand_bl, ↓VS.Z.e_and, ↓VS.Z.Kor_bl, ↓VS.Z.e_or, ↓VS.Z.Korv1_eq, ↓VS.Z.Korv_eq, ↓VS.Z.e_orv, ↓VS.Z.Kife_eq, ↓VS.Z.e_ife, ↓VS.Z.Kch4_eq, ↓VS.Z.Kch3_t, ↓VS.Z.Kch3_f, ↓VS.Z.Kch2_eq, ↓VS.Z.Kch1_eq, ↓VS.Z.Kch0_eq, ↓VS.Z.e_chain, ↓VS.Z.Klst_eq, ↓VS.Z.Ktup_eq, ↓VS.Z.e_lst, ↓VS.Z.e_tup, ↓VS.Z.Kc3_eq, ↓VS.Z.Kc2_eq, ↓VS.Z.Kc1_eq, ↓VS.Z.e_call, ↓VS.Z.KcpE_eq, ↓VS.Z.Kcp_eq, ↓VS.Z.e_comp, ↓VS.Z.es_nil, ↓VS.Z.Kes2_eq, ↓VS.Z.Kes1_eq, ↓VS.Z.es_cons, ↓VS.Z.o_none, ↓VS.Z.Ko_int, ↓VS.Z.o_some, ↓VS.Z.Ksq_eq, ↓VS.Z.i_seq, ↓VS.Z.Krng1_int, ↓VS.Z.i_rng1, ↓VS.Z.Krng2b_int, ↓VS.Z.Krng2a_eq, ↓VS.Z.i_rng2, ↓VS.Z.Kzip2_eq, ↓VS.Z.Kzip1_eq, ↓VS.Z.Kzip0_eq, ↓VS.Z.i_zip, ↓VS.Z.Kenum_lst, ↓VS.Z.i_enum, ↓VS.Z.KT_eq, ↓VS.Z.KtAnd_eq, ↓VS.Z.KtOr_eq, ↓VS.Z.KtNot_eq, ↓VS.Z.t_and, ↓VS.Z.t_or, ↓VS.Z.t_not, ↓VS.Z.t_len, ↓VS.Z.t_int_, ↓VS.Z.t_neg, ↓VS.Z.t_repr_, ↓VS.Z.t_all_, ↓VS.Z.t_any_, ↓VS.Z.t_sum_, ↓VS.Z.t_isN, ↓VS.Z.t_notN, ↓VS.Z.t_abs_, ↓VS.Z.t_listOf, ↓VS.Z.t_maxL, ↓VS.Z.t_minL, ↓VS.Z.t_isTrue_, ↓VS.Z.t_isFalse_, ↓VS.Z.t_sorted_, ↓VS.Z.t_notTrue_, ↓VS.Z.t_notFalse_, ↓VS.Z.t_bool_, ↓VS.Z.t_dictOf, ↓VS.Z.t_mkD, ↓VS.Z.t_isT, ↓VS.Z.t_p2, ↓VS.Z.t_bl, ↓VS.Z.t_var, ↓VS.Z.t_chain, ↓VS.Z.t_call, ↓VS.Z.Kset_eq, ↓VS.Z.s_set, ↓VS.Z.KNx_eq, ↓VS.Z.Ktgt_eq, ↓VS.Z.s_tgt, ↓VS.Z.Kpar2_eq, ↓VS.Z.Kpar1_eq, ↓VS.Z.s_par, ↓VS.Z.Kdp3_l, ↓VS.Z.Kdp2_eq, ↓VS.Z.Kdp1_eq, ↓VS.Z.Kdp0_l, ↓VS.Z.s_dput, ↓VS.Z.Ksub4_eq, ↓VS.Z.Ksub3_l, ↓VS.Z.Ksub2_eq, ↓VS.Z.Ksub1_eq, ↓VS.Z.Ksub0_l, ↓VS.Z.s_sub, ↓VS.Z.Kapp2_l, ↓VS.Z.Kapp1_eq, ↓VS.Z.Kapp0_l, ↓VS.Z.s_app, ↓VS.Z.Kext2_l, ↓VS.Z.Kext1_eq, ↓VS.Z.Kext0_l, ↓VS.Z.s_ext, ↓VS.Z.Kclr_l, ↓VS.Z.s_clr, ↓VS.Z.KapT1_l, ↓VS.Z.KapT0_eq, ↓VS.Z.s_appT, ↓VS.Z.Kaug1_eq, ↓VS.Z.Kaug0_eq, ↓VS.Z.s_aug, ↓VS.Z.Kex_eq, ↓VS.Z.s_ex, ↓VS.Z.Kret_eq, ↓VS.Z.s_ret, ↓VS.Z.KretO_l, ↓VS.Z.s_retO, ↓VS.Z.s_retN, ↓VS.Z.Kifs_eq, ↓VS.Z.s_ifs, ↓VS.Z.KfB_eq, ↓VS.Z.fB_eq, ↓VS.Z.Kfor_eq, ↓VS.Z.s_fors, ↓VS.Z.s_whil, ↓VS.Z.s_brk, ↓VS.Z.s_cnt, ↓VS.Z.s_pas, ↓VS.Z.s_dem, ↓VS.Z.Kkil_eq, ↓VS.Z.s_kil, ↓VS.Z.ss_nil, ↓VS.Z.KN_nx, ↓VS.Z.KN_rt, ↓VS.Z.KN_bk, ↓VS.Z.KN_ct, ↓VS.Z.ss_cons, ↓VS.Z.KS_nx, ↓VS.Z.KS_rt, ↓VS.Z.KS_bk, ↓VS.Z.KS_ct, ↓VS.Z.Kw_eq, ↓VS.Z.Kwa_eq, ↓VS.Z.Kwn_eq, ↓VS.Z.Kwd_eq, ↓VS.Z.KcW2_eq, ↓VS.Z.KcW1_eq, ↓VS.Z.KcB_eq, ↓VS.Z.cB_eq, ↓VS.Z.cW_eq, ↓VS.Z.KWhl_eq, ↓VS.Z.KcpY_eq, ↓VS.Z.KcpN_eq, ↓VS.Z.l_var, ↓VS.Z.l_non, ↓VS.Z.l_bl, ↓VS.Z.l_int, ↓VS.Z.l_str, ↓VS.Z.l_gint, ↓VS.Z.l_p1, ↓VS.Z.l_p2, ↓VS.Z.l_slc, ↓VS.Z.l_and, ↓VS.Z.l_or, ↓VS.Z.l_orv, ↓VS.Z.l_ife, ↓VS.Z.l_chain, ↓VS.Z.l_lst, ↓VS.Z.l_tup, ↓VS.Z.l_call, ↓VS.Z.l_comp, ↓VS.Z.ls_nil, ↓VS.Z.Kls2_eq, ↓VS.Z.Kls1_eq, ↓VS.Z.ls_cons, ↓VS.Z.f_nx, ↓VS.Z.f_ct, ↓VS.Z.f_bk, ↓VS.Z.f_rt, ↓VS.Z.fi_rt, ↓VS.Z.fi_nx, ↓VS.Z.Ktg1_eq, ↓VS.Z.Ktg2_eq, ↓VS.Z.Ktg3_eq, ↓VS.Z.Ktg4_eq, ↓VS.Z.KB_eq, ↓VS.Z.KnB_eq, ↓VS.Z.KallC_bl, ↓VS.Z.KanyC_bl, VS.Z.cp_nil, VS.Z.cp_cons, VS.Z.cp_t, VS.Z.cp_dt, VS.Z.O_some, VS.Z.E_eq, VS.Z.P_eq, VS.Z.V_eq, VS.Z.if_t, VS.Z.if_f, VS.Z.lim_t, VS.Z.and_t, VS.Z.and_f, VS.Z.or_t, VS.Z.or_f, VS.Z.orv_t, VS.Z.orv_f, VS.Z.ife_t, VS.Z.ife_f, VS.Z.tand_t, VS.Z.tand_f, VS.Z.tor_t, VS.Z.tor_f, VS.Z.ifs_t, VS.Z.ifs_f, VS.Z.cw_t, VS.Z.cw_f, VS.Z.rng_t, VS.Z.whl_t, VS.Z.whl_f, VS.Z.dp_t, VS.Z.app_t, VS.Z.zip_l, VS.Z.Sq_lst, VS.Z.Sq_tup, VS.Z.Sq_scr, VS.Z.M_nil, VS.Z.M_S, VS.Z.M_B, VS.Z.M_O, VS.Z.C_some, VS.Z.Out_nil, VS.Z.Out_S, VS.Z.Out_B, VS.Z.Out_O, VS.Z.Tg_nm, VS.Z.Tg_tp, VS.Z.Tg_tp3, VS.Z.Tg_tp4, VS.Z.Tg_tp5, VS.Z.T_bl, VS.Z.T_int, VS.Z.T_non, VS.Z.T_lst, VS.Z.T_tup, VS.Z.look_0, VS.Z.look_S, VS.Z.putI_0, VS.Z.putI_S, VS.Z.wipe_nil, VS.Z.wipe_cons, VS.Z.set_0, VS.Z.set_S, VS.Z.back_nil, VS.Z.back_cons, VS.Z.atE_0, VS.Z.atE_S, VS.Z.putA_nil, VS.Z.putA_cons, VS.Z.outs_nil, VS.Z.outs_S, VS.Z.outs_B, VS.Z.outs_O, VS.Z.oCons_ss, VS.Z.k_len, VS.Z.k_lenT, VS.Z.k_lenS, VS.Z.k_int, VS.Z.k_intB, VS.Z.k_neg, VS.Z.k_not, VS.Z.k_isN, VS.Z.k_notN, VS.Z.k_isTr, VS.Z.k_isFa, VS.Z.k_ntTr, VS.Z.k_ntFa, VS.Z.k_bool, VS.Z.k_dictOf, VS.Z.k_mkD, VS.Z.mk_some, VS.Z.k_sorted, VS.Z.k_sorted0, VS.Z.k_isT, VS.Z.k_repr, VS.Z.k_listL, VS.Z.k_listT, VS.Z.k_listS, VS.Z.k_all, VS.Z.k_any, VS.Z.k_all0, VS.Z.k_any0, VS.Z.k_allB, VS.Z.k_anyB, VS.Z.k_allC, VS.Z.k_anyC, VS.Z.k_abs, VS.Z.k_maxL, VS.Z.k_minL, VS.Z.k_sum, VS.Z.k_add, VS.Z.k_sub, VS.Z.k_lt, VS.Z.k_le, VS.Z.k_gt, VS.Z.k_ge, VS.Z.k_max, VS.Z.k_min, VS.Z.k_mulr, VS.Z.k_mull, VS.Z.k_fdiv, VS.Z.k_mod, VS.Z.k_pow18, VS.Z.k_pow9, VS.Z.k_eq, VS.Z.k_ne, VS.Z.k_idxD, VS.Z.k_idxL, VS.Z.k_idxT, VS.Z.k_idxS, VS.Z.k_cat, VS.Z.k_rep, VS.Z.k_in, VS.Z.k_nin, VS.Z.A_int, VS.Z.A_sub, VS.Z.at_0, VS.Z.at_1, VS.Z.at_2, VS.Z.at_3, VS.Z.at_4, VS.Z.at_5, VS.Z.at_6, VS.Z.at_7, VS.Z.at_map, VS.Z.at_last, VS.Z.at_last1, VS.Z.ix_in, VS.Z.slc_lst, VS.Z.cut_map, VS.Z.set_map, VS.Z.set_mapI, VS.Z.app_mapI, VS.Z.app_maps, VS.Z.okR_lt, VS.Z.rng_0, VS.Z.rng_1, VS.Z.zip_map, VS.Z.enum_map, VS.Z.iN_int, VS.Z.iN_str, VS.Z.iN_bl, VS.Z.iN_lst, VS.Z.iN_tup, VS.Z.iN_non, VS.Z.ty_int_int, VS.Z.ty_int_str, VS.Z.ty_int_bl, VS.Z.ty_int_lst, VS.Z.ty_int_tup, VS.Z.ty_int_non, VS.Z.ty_bool_int, VS.Z.ty_bool_str, VS.Z.ty_bool_bl, VS.Z.ty_bool_lst, VS.Z.ty_bool_tup, VS.Z.ty_bool_non, VS.Z.ty_list_int, VS.Z.ty_list_str, VS.Z.ty_list_bl, VS.Z.ty_list_lst, VS.Z.ty_list_tup, VS.Z.ty_list_non, VS.Z.ty_str_int, VS.Z.ty_str_str, VS.Z.ty_str_bl, VS.Z.ty_str_lst, VS.Z.ty_str_tup, VS.Z.ty_str_non, VS.Z.ty_tup_int, VS.Z.ty_tup_str, VS.Z.ty_tup_bl, VS.Z.ty_tup_lst, VS.Z.ty_tup_tup, VS.Z.ty_tup_non, VS.Z.ty_dict_int, VS.Z.ty_dict_str, VS.Z.ty_dict_bl, VS.Z.ty_dict_lst, VS.Z.ty_dict_tup, VS.Z.ty_dict_non, VS.Z.eq_int, VS.Z.eq_bl, VS.Z.eq_non, VS.Z.eq_nonI, VS.Z.eq_Inon, VS.Z.eq_str, VS.Z.eqs_amount_cell, VS.Z.eqs_amount_more, VS.Z.eqs_amount_least, VS.Z.eqs_amount_greatest, VS.Z.eqs_amount_when, VS.Z.eqs_amount_only, VS.Z.eqs_amount_at_least, VS.Z.eqs_amount_at_most, VS.Z.eqs_cell_amount, VS.Z.eqs_cell_more, VS.Z.eqs_cell_least, VS.Z.eqs_cell_greatest, VS.Z.eqs_cell_when, VS.Z.eqs_cell_only, VS.Z.eqs_cell_at_least, VS.Z.eqs_cell_at_most, VS.Z.eqs_more_amount, VS.Z.eqs_more_cell, VS.Z.eqs_more_least, VS.Z.eqs_more_greatest, VS.Z.eqs_more_when, VS.Z.eqs_more_only, VS.Z.eqs_more_at_least, VS.Z.eqs_more_at_most, VS.Z.eqs_least_amount, VS.Z.eqs_least_cell, VS.Z.eqs_least_more, VS.Z.eqs_least_greatest, VS.Z.eqs_least_when, VS.Z.eqs_least_only, VS.Z.eqs_least_at_least, VS.Z.eqs_least_at_most, VS.Z.eqs_greatest_amount, VS.Z.eqs_greatest_cell, VS.Z.eqs_greatest_more, VS.Z.eqs_greatest_least, VS.Z.eqs_greatest_when, VS.Z.eqs_greatest_only, VS.Z.eqs_greatest_at_least, VS.Z.eqs_greatest_at_most, VS.Z.eqs_when_amount, VS.Z.eqs_when_cell, VS.Z.eqs_when_more, VS.Z.eqs_when_least, VS.Z.eqs_when_greatest, VS.Z.eqs_when_only, VS.Z.eqs_when_at_least, VS.Z.eqs_when_at_most, VS.Z.eqs_only_amount, VS.Z.eqs_only_cell, VS.Z.eqs_only_more, VS.Z.eqs_only_least, VS.Z.eqs_only_greatest, VS.Z.eqs_only_when, VS.Z.eqs_only_at_least, VS.Z.eqs_only_at_most, VS.Z.eqs_at_least_amount, VS.Z.eqs_at_least_cell, VS.Z.eqs_at_least_more, VS.Z.eqs_at_least_least, VS.Z.eqs_at_least_greatest, VS.Z.eqs_at_least_when, VS.Z.eqs_at_least_only, VS.Z.eqs_at_least_at_most, VS.Z.eqs_at_most_amount, VS.Z.eqs_at_most_cell, VS.Z.eqs_at_most_more, VS.Z.eqs_at_most_least, VS.Z.eqs_at_most_greatest, VS.Z.eqs_at_most_when, VS.Z.eqs_at_most_only, VS.Z.eqs_at_most_at_least, VS.Z.in_lg_amount, VS.Z.in_lg_cell, VS.Z.in_lg_more, VS.Z.in_lg_least, VS.Z.in_lg_greatest, VS.Z.in_lg_when, VS.Z.in_lg_only, VS.Z.in_lg_at_least, VS.Z.in_lg_at_most, VS.Z.in_ac_amount, VS.Z.in_ac_cell, VS.Z.in_ac_more, VS.Z.in_ac_least, VS.Z.in_ac_greatest, VS.Z.in_ac_when, VS.Z.in_ac_only, VS.Z.in_ac_at_least, VS.Z.in_ac_at_most, VS.Z.in_la_amount, VS.Z.in_la_cell, VS.Z.in_la_more, VS.Z.in_la_least, VS.Z.in_la_greatest, VS.Z.in_la_when, VS.Z.in_la_only, VS.Z.in_la_at_least, VS.Z.in_la_at_most, VS.Z.in_cw_amount, VS.Z.in_cw_cell, VS.Z.in_cw_more, VS.Z.in_cw_least, VS.Z.in_cw_greatest, VS.Z.in_cw_when, VS.Z.in_cw_only, VS.Z.in_cw_at_least, VS.Z.in_cw_at_most, VS.Z.W_some, VS.Z.map_some, VS.Z.lim_dt, VS.Z.app_dt, VS.Z.dp_dt, VS.Z.rng_dt, VS.Z.and_dt, VS.Z.and_df, VS.Z.or_dt, VS.Z.or_df, VS.Z.ife_dt, VS.Z.ife_df, VS.Z.tand_dt, VS.Z.tand_df, VS.Z.tor_dt, VS.Z.tor_df, VS.Z.ifs_dt, VS.Z.ifs_df, VS.Z.cw_dt, VS.Z.cw_df, VS.Z.whl_dt, VS.Z.whl_df, decide_true, decide_false, Bool.not_true, Bool.not_false, Bool.and_true, Bool.true_and, Bool.and_false, Bool.false_and, Bool.or_true, Bool.true_or, Bool.or_false, Bool.false_or, Bool.not_not, List.length_cons, List.length_nil, List.length_map, List.length_append, List.length_singleton, List.length_range, List.length_replicate, Nat.zero_add, List.isEmpty_cons, List.isEmpty_nil, List.map_nil, Int.ofNat_eq_natCast, Int.toNat_natCast, List.cons_append, List.nil_append, VS.lim, Nat.reduceLeDiff, Nat.reduceAdd, Nat.reduceSub, ite_true, ite_false, eq_self, if_true, if_false, reduceIte, Int.reduceToNat, Int.reduceLT, Int.reduceLE, Int.reduceNeg, Bool.false_eq_true, Bool.true_eq_false, Option.isNone_none, Option.isNone_some, VS.arc, VS.ff_amount, VS.ff_least, VS.ff_greatest, VS.ff_when, VS.isNon_am, VS.eqP_am, VS.eqP_ams, VS.eqP_ff, VS.eqP_ffs, VS.eqP_arcs, VS.eqP_ints, VS.eqP_bls, VS.inP_int, VS.inP_am, VS.eqPL_nil, VS.eqPL_bl, VS.eqPL_int, VS.eqPL_am, VS.isTy_am_bool, VS.am_add_ai, VS.am_add_ia, VS.am_add_aa, VS.am_sub_ai, VS.am_sub_ia, VS.am_sub_aa, VS.am_lt_ai, VS.am_lt_ia, VS.am_lt_aa, VS.am_le_ai, VS.am_le_ia, VS.am_le_aa, VS.am_gt_ai, VS.am_gt_ia, VS.am_gt_aa, VS.am_ge_ai, VS.am_ge_ia, VS.am_ge_aa, VS.am_int_, *])
local macro_rules | `(tactic| walk_at "w") => `(tactic| simp -implicitDefEqProofs (disch := ((try simp only [List.length_map, List.length_append, List.length_range, List.length_replicate, List.length_cons, List.length_nil, List.length_set, VS.lim]); omega)) only [↓VS.Z.e_var, ↓VS.Z.KR_eq, ↓VS.Z.e_non, ↓VS.Z.e_bl, ↓VS.Z.e_int, ↓VS.Z.e_str, ↓VS.Z.e_gint, ↓VS.Z.K1_eq, ↓VS.Z.e_p1, ↓VS.Z.K2c_eq, ↓VS.Z.K2b_eq, ↓VS.Z.K2a_eq, ↓VS.Z.e_p2, ↓VS.Z.Ksl4_eq, ↓VS.Z.Ksl3_eq, ↓VS.Z.Ksl2_eq, ↓VS.Z.Ksl1_eq, ↓VS.Z.e_slc, ↓VS.Z.Kand_bl, ↓VS.Z.e_and, ↓VS.Z.Kor_bl, ↓VS.Z.e_or, ↓VS.Z.Korv1_eq, ↓VS.Z.Korv_eq, ↓VS.Z.e_orv, ↓VS.Z.Kife_eq, ↓VS.Z.e_ife, ↓VS.Z.Kch4_eq, ↓VS.Z.Kch3_t, ↓VS.Z.Kch3_f, ↓VS.Z.Kch2_eq, ↓VS.Z.Kch1_eq, ↓VS.Z.Kch0_eq, ↓VS.Z.e_chain, ↓VS.Z.Klst_eq, ↓VS.Z.Ktup_eq, ↓VS.Z.e_lst, ↓VS.Z.e_tup, ↓VS.Z.Kc3_eq, ↓VS.Z.Kc2_eq, ↓VS.Z.Kc1_eq, ↓VS.Z.e_call, ↓VS.Z.KcpE_eq, ↓VS.Z.Kcp_eq, ↓VS.Z.e_comp, ↓VS.Z.es_nil, ↓VS.Z.Kes2_eq, ↓VS.Z.Kes1_eq, ↓VS.Z.es_cons, ↓VS.Z.o_none, ↓VS.Z.Ko_int, ↓VS.Z.o_some, ↓VS.Z.Ksq_eq, ↓VS.Z.i_seq, ↓VS.Z.Krng1_int, ↓VS.Z.i_rng1, ↓VS.Z.Krng2b_int, ↓VS.Z.Krng2a_eq, ↓VS.Z.i_rng2, ↓VS.Z.Kzip2_eq, ↓VS.Z.Kzip1_eq, ↓VS.Z.Kzip0_eq, ↓VS.Z.i_zip, ↓VS.Z.Kenum_lst, ↓VS.Z.i_enum, ↓VS.Z.KT_eq, ↓VS.Z.KtAnd_eq, ↓VS.Z.KtOr_eq, ↓VS.Z.KtNot_eq, ↓VS.Z.t_and, ↓VS.Z.t_or, ↓VS.Z.t_not, ↓VS.Z.t_len, ↓VS.Z.t_int_, ↓VS.Z.t_neg, ↓VS.Z.t_repr_, ↓VS.Z.t_all_, ↓VS.Z.t_any_, ↓VS.Z.t_sum_, ↓VS.Z.t_isN, ↓VS.Z.t_notN, ↓VS.Z.t_abs_, ↓VS.Z.t_listOf, ↓VS.Z.t_maxL, ↓VS.Z.t_minL, ↓VS.Z.t_isTrue_, ↓VS.Z.t_isFalse_, ↓VS.Z.t_sorted_, ↓VS.Z.t_notTrue_, ↓VS.Z.t_notFalse_, ↓VS.Z.t_bool_, ↓VS.Z.t_dictOf, ↓VS.Z.t_mkD, ↓VS.Z.t_isT, ↓VS.Z.t_p2, ↓VS.Z.t_bl, ↓VS.Z.t_var, ↓VS.Z.t_chain, ↓VS.Z.t_call, ↓VS.Z.Kset_eq, ↓VS.Z.s_set, ↓VS.Z.KNx_eq, ↓VS.Z.Ktgt_eq, ↓VS.Z.s_tgt, ↓VS.Z.Kpar2_eq, ↓VS.Z.Kpar1_eq, ↓VS.Z.s_par, ↓VS.Z.Kdp3_l, ↓VS.Z.Kdp2_eq, ↓VS.Z.Kdp1_eq, ↓VS.Z.Kdp0_l, ↓VS.Z.s_dput, ↓VS.Z.Ksub4_eq, ↓VS.Z.Ksub3_l, ↓VS.Z.Ksub2_eq, ↓VS.Z.Ksub1_eq, ↓VS.Z.Ksub0_l, ↓VS.Z.s_sub, ↓VS.Z.Kapp2_l, ↓VS.Z.Kapp1_eq, ↓VS.Z.Kapp0_l, ↓VS.Z.s_app, ↓VS.Z.Kext2_l, ↓VS.Z.Kext1_eq, ↓VS.Z.Kext0_l, ↓VS.Z.s_ext, ↓VS.Z.Kclr_l, ↓VS.Z.s_clr, ↓VS.Z.KapT1_l, ↓VS.Z.KapT0_eq, ↓VS.Z.s_appT, ↓VS.Z.Kaug1_eq, ↓VS.Z.Kaug0_eq, ↓VS.Z.s_aug, ↓VS.Z.Kex_eq, ↓VS.Z.s_ex, ↓VS.Z.Kret_eq, ↓VS.Z.s_ret, ↓VS.Z.KretO_l, ↓VS.Z.s_retO, ↓VS.Z.s_retN, ↓VS.Z.Kifs_eq, ↓VS.Z.s_ifs, ↓VS.Z.KfB_eq, ↓VS.Z.fB_eq, ↓VS.Z.Kfor_eq, ↓VS.Z.s_fors, ↓VS.Z.s_whil, ↓VS.Z.s_brk, ↓VS.Z.s_cnt, ↓VS.Z.s_pas, ↓VS.Z.s_dem, ↓VS.Z.Kkil_eq, ↓VS.Z.s_kil, ↓VS.Z.ss_nil, ↓VS.Z.KN_nx, ↓VS.Z.KN_rt, ↓VS.Z.KN_bk, ↓VS.Z.KN_ct, ↓VS.Z.ss_cons, ↓VS.Z.KS_nx, ↓VS.Z.KS_rt, ↓VS.Z.KS_bk, ↓VS.Z.KS_ct, ↓VS.Z.Kw_eq, ↓VS.Z.Kwa_eq, ↓VS.Z.Kwn_eq, ↓VS.Z.Kwd_eq, ↓VS.Z.KcW2_eq, ↓VS.Z.KcW1_eq, ↓VS.Z.KcB_eq, ↓VS.Z.cB_eq, ↓VS.Z.cW_eq, ↓VS.Z.KWhl_eq, ↓VS.Z.KcpY_eq, ↓VS.Z.KcpN_eq, ↓VS.Z.l_var, ↓VS.Z.l_non, ↓VS.Z.l_bl, ↓VS.Z.l_int, ↓VS.Z.l_str, ↓VS.Z.l_gint, ↓VS.Z.l_p1, ↓VS.Z.l_p2, ↓VS.Z.l_slc, ↓VS.Z.l_and, ↓VS.Z.l_or, ↓VS.Z.l_orv, ↓VS.Z.l_ife, ↓VS.Z.l_chain, ↓VS.Z.l_lst, ↓VS.Z.l_tup, ↓VS.Z.l_call, ↓VS.Z.l_comp, ↓VS.Z.ls_nil, ↓VS.Z.Kls2_eq, ↓VS.Z.Kls1_eq, ↓VS.Z.ls_cons, ↓VS.Z.f_nx, ↓VS.Z.f_ct, ↓VS.Z.f_bk, ↓VS.Z.f_rt, ↓VS.Z.fi_rt, ↓VS.Z.fi_nx, ↓VS.Z.Ktg1_eq, ↓VS.Z.Ktg2_eq, ↓VS.Z.Ktg3_eq, ↓VS.Z.Ktg4_eq, ↓VS.Z.KB_eq, ↓VS.Z.KnB_eq, ↓VS.Z.KallC_bl, ↓VS.Z.KanyC_bl, VS.Z.cp_nil, VS.Z.cp_cons, VS.Z.cp_t, VS.Z.cp_dt, VS.Z.O_some, VS.Z.E_eq, VS.Z.P_eq, VS.Z.V_eq, VS.Z.if_t, VS.Z.if_f, VS.Z.lim_t, VS.Z.and_t, VS.Z.and_f, VS.Z.or_t, VS.Z.or_f, VS.Z.orv_t, VS.Z.orv_f, VS.Z.ife_t, VS.Z.ife_f, VS.Z.tand_t, VS.Z.tand_f, VS.Z.tor_t, VS.Z.tor_f, VS.Z.ifs_t, VS.Z.ifs_f, VS.Z.cw_t, VS.Z.cw_f, VS.Z.rng_t, VS.Z.whl_t, VS.Z.whl_f, VS.Z.dp_t, VS.Z.app_t, VS.Z.zip_l, VS.Z.Sq_lst, VS.Z.Sq_tup, VS.Z.Sq_scr, VS.Z.M_nil, VS.Z.M_S, VS.Z.M_B, VS.Z.M_O, VS.Z.C_some, VS.Z.Out_nil, VS.Z.Out_S, VS.Z.Out_B, VS.Z.Out_O, VS.Z.Tg_nm, VS.Z.Tg_tp, VS.Z.Tg_tp3, VS.Z.Tg_tp4, VS.Z.Tg_tp5, VS.Z.T_bl, VS.Z.T_int, VS.Z.T_non, VS.Z.T_lst, VS.Z.T_tup, VS.Z.look_0, VS.Z.look_S, VS.Z.putI_0, VS.Z.putI_S, VS.Z.wipe_nil, VS.Z.wipe_cons, VS.Z.set_0, VS.Z.set_S, VS.Z.back_nil, VS.Z.back_cons, VS.Z.atE_0, VS.Z.atE_S, VS.Z.putA_nil, VS.Z.putA_cons, VS.Z.outs_nil, VS.Z.outs_S, VS.Z.outs_B, VS.Z.outs_O, VS.Z.oCons_ss, VS.Z.k_len, VS.Z.k_lenT, VS.Z.k_lenS, VS.Z.k_int, VS.Z.k_intB, VS.Z.k_neg, VS.Z.k_not, VS.Z.k_isN, VS.Z.k_notN, VS.Z.k_isTr, VS.Z.k_isFa, VS.Z.k_ntTr, VS.Z.k_ntFa, VS.Z.k_bool, VS.Z.k_dictOf, VS.Z.k_mkD, VS.Z.mk_some, VS.Z.k_sorted, VS.Z.k_sorted0, VS.Z.k_isT, VS.Z.k_repr, VS.Z.k_listL, VS.Z.k_listT, VS.Z.k_listS, VS.Z.k_all, VS.Z.k_any, VS.Z.k_all0, VS.Z.k_any0, VS.Z.k_allB, VS.Z.k_anyB, VS.Z.k_allC, VS.Z.k_anyC, VS.Z.k_abs, VS.Z.k_maxL, VS.Z.k_minL, VS.Z.k_sum, VS.Z.k_add, VS.Z.k_sub, VS.Z.k_lt, VS.Z.k_le, VS.Z.k_gt, VS.Z.k_ge, VS.Z.k_max, VS.Z.k_min, VS.Z.k_mulr, VS.Z.k_mull, VS.Z.k_fdiv, VS.Z.k_mod, VS.Z.k_pow18, VS.Z.k_pow9, VS.Z.k_eq, VS.Z.k_ne, VS.Z.k_idxD, VS.Z.k_idxL, VS.Z.k_idxT, VS.Z.k_idxS, VS.Z.k_cat, VS.Z.k_rep, VS.Z.k_in, VS.Z.k_nin, VS.Z.A_int, VS.Z.A_sub, VS.Z.at_0, VS.Z.at_1, VS.Z.at_2, VS.Z.at_3, VS.Z.at_4, VS.Z.at_5, VS.Z.at_6, VS.Z.at_7, VS.Z.at_map, VS.Z.at_last, VS.Z.at_last1, VS.Z.ix_in, VS.Z.slc_lst, VS.Z.cut_map, VS.Z.set_map, VS.Z.set_mapI, VS.Z.app_mapI, VS.Z.app_maps, VS.Z.okR_lt, VS.Z.rng_0, VS.Z.rng_1, VS.Z.zip_map, VS.Z.enum_map, VS.Z.iN_int, VS.Z.iN_str, VS.Z.iN_bl, VS.Z.iN_lst, VS.Z.iN_tup, VS.Z.iN_non, VS.Z.ty_int_int, VS.Z.ty_int_str, VS.Z.ty_int_bl, VS.Z.ty_int_lst, VS.Z.ty_int_tup, VS.Z.ty_int_non, VS.Z.ty_bool_int, VS.Z.ty_bool_str, VS.Z.ty_bool_bl, VS.Z.ty_bool_lst, VS.Z.ty_bool_tup, VS.Z.ty_bool_non, VS.Z.ty_list_int, VS.Z.ty_list_str, VS.Z.ty_list_bl, VS.Z.ty_list_lst, VS.Z.ty_list_tup, VS.Z.ty_list_non, VS.Z.ty_str_int, VS.Z.ty_str_str, VS.Z.ty_str_bl, VS.Z.ty_str_lst, VS.Z.ty_str_tup, VS.Z.ty_str_non, VS.Z.ty_tup_int, VS.Z.ty_tup_str, VS.Z.ty_tup_bl, VS.Z.ty_tup_lst, VS.Z.ty_tup_tup, VS.Z.ty_tup_non, VS.Z.ty_dict_int, VS.Z.ty_dict_str, VS.Z.ty_dict_bl, VS.Z.ty_dict_lst, VS.Z.ty_dict_tup, VS.Z.ty_dict_non, VS.Z.eq_int, VS.Z.eq_bl, VS.Z.eq_non, VS.Z.eq_nonI, VS.Z.eq_Inon, VS.Z.eq_str, VS.Z.eqs_amount_cell, VS.Z.eqs_amount_more, VS.Z.eqs_amount_least, VS.Z.eqs_amount_greatest, VS.Z.eqs_amount_when, VS.Z.eqs_amount_only, VS.Z.eqs_amount_at_least, VS.Z.eqs_amount_at_most, VS.Z.eqs_cell_amount, VS.Z.eqs_cell_more, VS.Z.eqs_cell_least, VS.Z.eqs_cell_greatest, VS.Z.eqs_cell_when, VS.Z.eqs_cell_only, VS.Z.eqs_cell_at_least, VS.Z.eqs_cell_at_most, VS.Z.eqs_more_amount, VS.Z.eqs_more_cell, VS.Z.eqs_more_least, VS.Z.eqs_more_greatest, VS.Z.eqs_more_when, VS.Z.eqs_more_only, VS.Z.eqs_more_at_least, VS.Z.eqs_more_at_most, VS.Z.eqs_least_amount, VS.Z.eqs_least_cell, VS.Z.eqs_least_more, VS.Z.eqs_least_greatest, VS.Z.eqs_least_when, VS.Z.eqs_least_only, VS.Z.eqs_least_at_least, VS.Z.eqs_least_at_most, VS.Z.eqs_greatest_amount, VS.Z.eqs_greatest_cell, VS.Z.eqs_greatest_more, VS.Z.eqs_greatest_least, VS.Z.eqs_greatest_when, VS.Z.eqs_greatest_only, VS.Z.eqs_greatest_at_least, VS.Z.eqs_greatest_at_most, VS.Z.eqs_when_amount, VS.Z.eqs_when_cell, VS.Z.eqs_when_more, VS.Z.eqs_when_least, VS.Z.eqs_when_greatest, VS.Z.eqs_when_only, VS.Z.eqs_when_at_least, VS.Z.eqs_when_at_most, VS.Z.eqs_only_amount, VS.Z.eqs_only_cell, VS.Z.eqs_only_more, VS.Z.eqs_only_least, VS.Z.eqs_only_greatest, VS.Z.eqs_only_when, VS.Z.eqs_only_at_least, VS.Z.eqs_only_at_most, VS.Z.eqs_at_least_amount, VS.Z.eqs_at_least_cell, VS.Z.eqs_at_least_more, VS.Z.eqs_at_least_least, VS.Z.eqs_at_least_greatest, VS.Z.eqs_at_least_when, VS.Z.eqs_at_least_only, VS.Z.eqs_at_least_at_most, VS.Z.eqs_at_most_amount, VS.Z.eqs_at_most_cell, VS.Z.eqs_at_most_more, VS.Z.eqs_at_most_least, VS.Z.eqs_at_most_greatest, VS.Z.eqs_at_most_when, VS.Z.eqs_at_most_only, VS.Z.eqs_at_most_at_least, VS.Z.in_lg_amount, VS.Z.in_lg_cell, VS.Z.in_lg_more, VS.Z.in_lg_least, VS.Z.in_lg_greatest, VS.Z.in_lg_when, VS.Z.in_lg_only, VS.Z.in_lg_at_least, VS.Z.in_lg_at_most, VS.Z.in_ac_amount, VS.Z.in_ac_cell, VS.Z.in_ac_more, VS.Z.in_ac_least, VS.Z.in_ac_greatest, VS.Z.in_ac_when, VS.Z.in_ac_only, VS.Z.in_ac_at_least, VS.Z.in_ac_at_most, VS.Z.in_la_amount, VS.Z.in_la_cell, VS.Z.in_la_more, VS.Z.in_la_least, VS.Z.in_la_greatest, VS.Z.in_la_when, VS.Z.in_la_only, VS.Z.in_la_at_least, VS.Z.in_la_at_most, VS.Z.in_cw_amount, VS.Z.in_cw_cell, VS.Z.in_cw_more, VS.Z.in_cw_least, VS.Z.in_cw_greatest, VS.Z.in_cw_when, VS.Z.in_cw_only, VS.Z.in_cw_at_least, VS.Z.in_cw_at_most, VS.Z.W_some, VS.Z.map_some, VS.Z.lim_dt, VS.Z.app_dt, VS.Z.dp_dt, VS.Z.rng_dt, VS.Z.and_dt, VS.Z.and_df, VS.Z.or_dt, VS.Z.or_df, VS.Z.ife_dt, VS.Z.ife_df, VS.Z.tand_dt, VS.Z.tand_df, VS.Z.tor_dt, VS.Z.tor_df, VS.Z.ifs_dt, VS.Z.ifs_df, VS.Z.cw_dt, VS.Z.cw_df, VS.Z.whl_dt, VS.Z.whl_df, decide_true, decide_false, Bool.not_true, Bool.not_false, Bool.and_true, Bool.true_and, Bool.and_false, Bool.false_and, Bool.or_true, Bool.true_or, Bool.or_false, Bool.false_or, Bool.not_not, List.length_cons, List.length_nil, List.length_map, List.length_append, List.length_singleton, List.length_range, List.length_replicate, Nat.zero_add, List.isEmpty_cons, List.isEmpty_nil, List.map_nil, Int.ofNat_eq_natCast, Int.toNat_natCast, List.cons_append, List.nil_append, VS.lim, Nat.reduceLeDiff, Nat.reduceAdd, Nat.reduceSub, ite_true, ite_false, eq_self, if_true, if_false, reduceIte, Int.reduceToNat, Int.reduceLT, Int.reduceLE, Int.reduceNeg, Bool.false_eq_true, Bool.true_eq_false, Option.isNone_none, Option.isNone_some, VS.arc, VS.ff_amount, VS.ff_least, VS.ff_greatest, VS.ff_when, VS.isNon_am, VS.eqP_am, VS.eqP_ams, VS.eqP_ff, VS.eqP_ffs, VS.eqP_arcs, VS.eqP_ints, VS.eqP_bls, VS.inP_int, VS.inP_am, VS.eqPL_nil, VS.eqPL_bl, VS.eqPL_int, VS.eqPL_am, VS.isTy_am_bool, VS.am_add_ai, VS.am_add_ia, VS.am_add_aa, VS.am_sub_ai, VS.am_sub_ia, VS.am_sub_aa, VS.am_lt_ai, VS.am_lt_ia, VS.am_lt_aa, VS.am_le_ai, VS.am_le_ia, VS.am_le_aa, VS.am_gt_ai, VS.am_gt_ia, VS.am_gt_aa, VS.am_ge_ai, VS.am_ge_ia, VS.am_ge_aa, VS.am_int_])
namespace C
open PySem L2 VS

theorem sp_at_most {T : Tb} (hT : H_at_most T) (k : Nat) (a b : Am) : Ga T (k + 1) 6 [am a, am b] = some (.bl (atMost a b), []) := by
  cases a <;> cases b <;> simp only [am, atMost]
  all_goals
    have e_at_most := h_at_most hT
    have m_at_most := m_at_most
    refine Z.W_eq (Z.ga_W e_at_most rfl ?_)
    simp -implicitDefEqProofs only [t_at_most, List.map_cons, List.map_nil, List.replicate, List.length_cons, List.length_nil, List.cons_append, List.nil_append, Nat.reduceAdd, Nat.reduceSub]
    walk_at "v"



theorem sp_shifted {T : Tb} (hT : H_shifted T) (k : Nat) (a : Am) (c : Int) : Ga T (k + 1) 7 [am a, .int c] = some (am (sh a c), []) := by
  cases a <;> simp only [am, sh]
  all_goals
    have e_shifted := h_shifted hT
    have m_shifted := m_shifted
    refine Z.W_eq (Z.ga_W e_shifted rfl ?_)
    simp -implicitDefEqProofs only [t_shifted, List.map_cons, List.map_nil, List.replicate, List.length_cons, List.length_nil, List.cons_append, List.nil_append, Nat.reduceAdd, Nat.reduceSub]
    walk_at "v"



theorem sp_least_of {T : Tb} (hT : H_least_of T) (k : Nat) (xs : List Am) (h : 0 < xs.length) : Ga T (k + 2) 10 [.lst (xs.map am)] = some (am (leastOf xs), []) := by
  have e_least_of := h_least_of hT
  have m_least_of := m_least_of
  have g_at_most := H_least_of_at_most hT
  have e_at_most := h_at_most g_at_most
  have m_at_most := m_at_most
  have s_at_most := @sp_at_most _ g_at_most
  refine Z.W_eq (Z.ga_W e_least_of rfl ?_)
  simp -implicitDefEqProofs only [t_least_of, List.map_cons, List.map_nil, List.replicate, List.length_cons, List.length_nil, List.cons_append, List.nil_append, Nat.reduceAdd, Nat.reduceSub]
  walk_at "v"
  refine Z.forF [some (.lst (xs.map am)), none, none] (fun a => [(1, am a)]) lea (nth xs 0) (fun _ => True) rfl trivial (fun x s K hx _ hK => ?_) (fun _ => ?_)
  · have hK := hK trivial
    walk_at "v"
    unfold lea at hK
    cases hc : atMost x s <;> (simp only [hc] at hK; walk_at "v") <;> exact hK
  · walk_at "v"
    rfl



theorem sp_greatest_of {T : Tb} (hT : H_greatest_of T) (k : Nat) (xs : List Am) (h : 0 < xs.length) : Ga T (k + 2) 11 [.lst (xs.map am)] = some (am (greatestOf xs), []) := by
  have e_greatest_of := h_greatest_of hT
  have m_greatest_of := m_greatest_of
  have g_at_most := H_greatest_of_at_most hT
  have e_at_most := h_at_most g_at_most
  have m_at_most := m_at_most
  have s_at_most := @sp_at_most _ g_at_most
  refine Z.W_eq (Z.ga_W e_greatest_of rfl ?_)
  simp -implicitDefEqProofs only [t_greatest_of, List.map_cons, List.map_nil, List.replicate, List.length_cons, List.length_nil, List.cons_append, List.nil_append, Nat.reduceAdd, Nat.reduceSub]
  walk_at "v"
  refine Z.forF [some (.lst (xs.map am)), none, none] (fun a => [(1, am a)]) gre (nth xs 0) (fun _ => True) rfl trivial (fun x s K hx _ hK => ?_) (fun _ => ?_)
  · have hK := hK trivial
    walk_at "v"
    unfold gre at hK
    cases hc : atMost s x <;> (simp only [hc] at hK; walk_at "v") <;> exact hK
  · walk_at "v"
    rfl



theorem sp_flat_value {T : Tb} (hT : H_flat_value T) (k : Nat) (x : List Am) (f : FF) (hf : okF x.length f) (hx : x.length ≤ 1000) : Ga T (k + 3) 46 [ff f, .lst (x.map am)] = some (am (fval x f), []) := by
  cases f with
  | amount a =>
    have e_flat_value := h_flat_value hT
    have m_flat_value := m_flat_value
    have g_at_most := H_flat_value_at_most hT
    have e_at_most := h_at_most g_at_most
    have m_at_most := m_at_most
    have s_at_most := @sp_at_most _ g_at_most
    have g_shifted := H_flat_value_shifted hT
    have e_shifted := h_shifted g_shifted
    have m_shifted := m_shifted
    have s_shifted := @sp_shifted _ g_shifted
    have g_least_of := H_flat_value_least_of hT
    have e_least_of := h_least_of g_least_of
    have m_least_of := m_least_of
    have s_least_of := @sp_least_of _ g_least_of
    have g_greatest_of := H_flat_value_greatest_of hT
    have e_greatest_of := h_greatest_of g_greatest_of
    have m_greatest_of := m_greatest_of
    have s_greatest_of := @sp_greatest_of _ g_greatest_of
    refine Z.W_eq (Z.ga_W e_flat_value rfl ?_)
    simp -implicitDefEqProofs only [t_flat_value, List.map_cons, List.map_nil, List.replicate, List.length_cons, List.length_nil, List.cons_append, List.nil_append, Nat.reduceAdd, Nat.reduceSub]
    walk_at "v"
    simp only [fval]
  | when j a q =>
    obtain ⟨hj, hq⟩ := hf
    have e : D.int a = am (some a) := rfl
    have e_flat_value := h_flat_value hT
    have m_flat_value := m_flat_value
    have g_at_most := H_flat_value_at_most hT
    have e_at_most := h_at_most g_at_most
    have m_at_most := m_at_most
    have s_at_most := @sp_at_most _ g_at_most
    have g_shifted := H_flat_value_shifted hT
    have e_shifted := h_shifted g_shifted
    have m_shifted := m_shifted
    have s_shifted := @sp_shifted _ g_shifted
    have g_least_of := H_flat_value_least_of hT
    have e_least_of := h_least_of g_least_of
    have m_least_of := m_least_of
    have s_least_of := @sp_least_of _ g_least_of
    have g_greatest_of := H_flat_value_greatest_of hT
    have e_greatest_of := h_greatest_of g_greatest_of
    have m_greatest_of := m_greatest_of
    have s_greatest_of := @sp_greatest_of _ g_greatest_of
    refine Z.W_eq (Z.ga_W e_flat_value rfl ?_)
    simp -implicitDefEqProofs only [t_flat_value, List.map_cons, List.map_nil, List.replicate, List.length_cons, List.length_nil, List.cons_append, List.nil_append, Nat.reduceAdd, Nat.reduceSub]
    walk_at "v"
    simp only [fval]
    cases h : atMost (some a) (nth x j) <;> walk_at "v"
    rfl
  | least arcs =>
    obtain ⟨h1, h2, h3⟩ := hf
    have e_flat_value := h_flat_value hT
    have m_flat_value := m_flat_value
    have g_at_most := H_flat_value_at_most hT
    have e_at_most := h_at_most g_at_most
    have m_at_most := m_at_most
    have s_at_most := @sp_at_most _ g_at_most
    have g_shifted := H_flat_value_shifted hT
    have e_shifted := h_shifted g_shifted
    have m_shifted := m_shifted
    have s_shifted := @sp_shifted _ g_shifted
    have g_least_of := H_flat_value_least_of hT
    have e_least_of := h_least_of g_least_of
    have m_least_of := m_least_of
    have s_least_of := @sp_least_of _ g_least_of
    have g_greatest_of := H_flat_value_greatest_of hT
    have e_greatest_of := h_greatest_of g_greatest_of
    have m_greatest_of := m_greatest_of
    have s_greatest_of := @sp_greatest_of _ g_greatest_of
    refine Z.W_eq (Z.ga_W e_flat_value rfl ?_)
    simp -implicitDefEqProofs only [t_flat_value, List.map_cons, List.map_nil, List.replicate, List.length_cons, List.length_nil, List.cons_append, List.nil_append, Nat.reduceAdd, Nat.reduceSub]
    walk_at "v"
    refine Z.compMap2 am (fun p : Int × Int => sh (nth x p.1) p.2) (by simp [lim]; omega) (fun p K kn hp hK => ?_) ?_
    · have := h3 p hp
      walk_at "v"
      exact hK
    · walk_at "v"
      rfl
  | greatest arcs =>
    obtain ⟨h1, h2, h3⟩ := hf
    have e_flat_value := h_flat_value hT
    have m_flat_value := m_flat_value
    have g_at_most := H_flat_value_at_most hT
    have e_at_most := h_at_most g_at_most
    have m_at_most := m_at_most
    have s_at_most := @sp_at_most _ g_at_most
    have g_shifted := H_flat_value_shifted hT
    have e_shifted := h_shifted g_shifted
    have m_shifted := m_shifted
    have s_shifted := @sp_shifted _ g_shifted
    have g_least_of := H_flat_value_least_of hT
    have e_least_of := h_least_of g_least_of
    have m_least_of := m_least_of
    have s_least_of := @sp_least_of _ g_least_of
    have g_greatest_of := H_flat_value_greatest_of hT
    have e_greatest_of := h_greatest_of g_greatest_of
    have m_greatest_of := m_greatest_of
    have s_greatest_of := @sp_greatest_of _ g_greatest_of
    refine Z.W_eq (Z.ga_W e_flat_value rfl ?_)
    simp -implicitDefEqProofs only [t_flat_value, List.map_cons, List.map_nil, List.replicate, List.length_cons, List.length_nil, List.cons_append, List.nil_append, Nat.reduceAdd, Nat.reduceSub]
    walk_at "v"
    refine Z.compMap2 am (fun p : Int × Int => sh (nth x p.1) p.2) (by simp [lim]; omega) (fun p K kn hp hK => ?_) ?_
    · have := h3 p hp
      walk_at "v"
      exact hK
    · walk_at "v"
      rfl



theorem sp_flat_values {T : Tb} (hT : H_flat_values T) (k : Nat) (x : List Am) (fs : List FF) (hf : ∀ f ∈ fs, okF x.length f) (hx : x.length ≤ 1000) (hl : fs.length ≤ 1000) : Ga T (k + 4) 47 [.lst (fs.map ff), .lst (x.map am)] = some (.lst ((fvals fs x).map am), []) := by
  have e_flat_values := h_flat_values hT
  have m_flat_values := m_flat_values
  have g_flat_value := H_flat_values_flat_value hT
  have e_flat_value := h_flat_value g_flat_value
  have m_flat_value := m_flat_value
  have s_flat_value := @sp_flat_value _ g_flat_value
  refine Z.W_eq (Z.ga_W e_flat_values rfl ?_)
  simp -implicitDefEqProofs only [t_flat_values, List.map_cons, List.map_nil, List.replicate, List.length_cons, List.length_nil, List.cons_append, List.nil_append, Nat.reduceAdd, Nat.reduceSub]
  walk_at "v"
  refine Z.compMap2 am (fval x) (by simp [lim]; omega) (fun p K kn hp hK => ?_) ?_
  · have := s_flat_value k x p (hf p hp) hx
    walk_at "v"
    exact hK
  · walk_at "v"
    rfl



theorem fold_mem {f : Am → Am → Am} (hf : ∀ a b, f a b = a ∨ f a b = b) : ∀ (xs : List Am) (a : Am), xs.foldl f a = a ∨ xs.foldl f a ∈ xs
  | [], a => .inl rfl
  | x :: xs, a => by
    rcases fold_mem hf xs (f a x) with h | h
    · rcases hf a x with e | e
      · left; show xs.foldl f (f a x) = a; rw [h, e]
      · right; show xs.foldl f (f a x) ∈ _; rw [h, e]; exact List.mem_cons_self ..
    · exact .inr (List.mem_cons_of_mem _ h)
theorem leastOf_mem {xs : List Am} (h : 0 < xs.length) : leastOf xs ∈ xs := by
  rcases fold_mem (f := lea) (fun a b => by unfold lea; split <;> simp) xs (nth xs 0) with e | e
  · unfold leastOf; rw [e]; exact nth_mem (by decide) (by omega)
  · exact e
theorem greatestOf_mem {xs : List Am} (h : 0 < xs.length) : greatestOf xs ∈ xs := by
  rcases fold_mem (f := gre) (fun a b => by unfold gre; split <;> simp) xs (nth xs 0) with e | e
  · unfold greatestOf; rw [e]; exact nth_mem (by decide) (by omega)
  · exact e
theorem sh_lt {B C : Int} {a : Am} {c : Int} (h : ltA B a) (hc : c < C) (hB : 0 < B) (hC : 0 < C) : ltA (B + C) (sh a c) := by
  cases a with
  | none => trivial
  | some v =>
    have h1 := h.1
    have h2 := h.2
    show 0 ≤ max 0 (v + c) ∧ max 0 (v + c) < B + C
    omega
theorem fval_lt {A B C : Int} {x : List Am} {f : FF} (hA : 0 < A) (hB : 0 < B) (hC : 0 < C) (hf : okF x.length f) (hl : ltF A C f) (hx : ∀ a ∈ x, ltA B a) : ltA (A + B + C) (fval x f) := by
  have nm : ∀ j : Int, 0 ≤ j → j < x.length → ltA B (nth x j) := fun j h0 h1 => hx _ (nth_mem h0 h1)
  cases f with
  | amount a => exact ltA.mono (by omega) (show ltA A a from hl)
  | when j a k =>
    obtain ⟨_, h1, h2⟩ := hf
    simp only [fval]
    split
    · exact ltA.mono (by omega) (nm k h1 h2)
    · exact ⟨Int.le_refl _, by omega⟩
  | least arcs =>
    obtain ⟨h1, _, h3⟩ := hf
    obtain ⟨p, hp, e⟩ := List.mem_map.mp (leastOf_mem (xs := arcs.map fun p => sh (nth x p.1) p.2) (by simpa using h1))
    simp only [fval]
    rw [← e]
    exact ltA.mono (by omega) (sh_lt (nm _ (h3 p hp).1 (h3 p hp).2) (hl p hp).2 hB hC)
  | greatest arcs =>
    obtain ⟨h1, _, h3⟩ := hf
    obtain ⟨p, hp, e⟩ := List.mem_map.mp (greatestOf_mem (xs := arcs.map fun p => sh (nth x p.1) p.2) (by simpa using h1))
    simp only [fval]
    rw [← e]
    exact ltA.mono (by omega) (sh_lt (nm _ (h3 p hp).1 (h3 p hp).2) (hl p hp).2 hB hC)
theorem fvals_lt {A B C : Int} {x : List Am} {fs : List FF} (hA : 0 < A) (hB : 0 < B) (hC : 0 < C) (hf : ∀ f ∈ fs, okF x.length f) (hl : ∀ f ∈ fs, ltF A C f) (hx : ∀ a ∈ x, ltA B a) : ∀ a ∈ fvals fs x, ltA (A + B + C) a := fun a ha => by
  obtain ⟨f, hf', e⟩ := List.mem_map.mp ha
  rw [← e]
  exact fval_lt hA hB hC (hf f hf') (hl f hf') hx


theorem ge0 {a : Am} (h : okAm a) : atMost (some 0) a = true := by
  cases a with
  | none => rfl
  | some v => exact decide_eq_true h
theorem sh_ge {a : Am} {c : Int} (hc : 0 ≤ c) : atMost a (sh a c) = true := by
  cases a with
  | none => rfl
  | some v => exact decide_eq_true (by show v ≤ max 0 (v + c); omega)
theorem sh_ok {a : Am} {c : Int} : okAm (sh a c) := by
  cases a with
  | none => trivial
  | some v => show 0 ≤ max 0 (v + c); omega
theorem sh_mono {a b : Am} {c : Int} (h : atMost a b = true) : atMost (sh a c) (sh b c) = true := by
  cases a <;> cases b
  · rfl
  · cases h
  · rfl
  · have := of_decide_eq_true h
    exact decide_eq_true (by omega)
theorem lea_le (f o : Am) : atMost (lea f o) f = true ∧ atMost (lea f o) o = true := by
  unfold lea
  split
  · exact ⟨‹_›, atMost_refl o⟩
  · exact ⟨atMost_refl f, atMost_total _ _ ((Bool.not_eq_true _).mp ‹_›)⟩
theorem gre_ge (f o : Am) : atMost f (gre f o) = true ∧ atMost o (gre f o) = true := by
  unfold gre
  split
  · exact ⟨‹_›, atMost_refl o⟩
  · exact ⟨atMost_refl f, atMost_total _ _ ((Bool.not_eq_true _).mp ‹_›)⟩
theorem fold_lea : ∀ (xs : List Am) (s : Am), atMost (xs.foldl lea s) s = true ∧ ∀ a ∈ xs, atMost (xs.foldl lea s) a = true
  | [], s => ⟨atMost_refl s, by simp⟩
  | x :: xs, s => by
    obtain ⟨h1, h2⟩ := fold_lea xs (lea s x)
    refine ⟨atMost_trans h1 (lea_le s x).1, fun a ha => ?_⟩
    rcases List.mem_cons.mp ha with h | h
    · rw [h]; exact atMost_trans h1 (lea_le s x).2
    · exact h2 a h
theorem fold_gre : ∀ (xs : List Am) (s : Am), atMost s (xs.foldl gre s) = true ∧ ∀ a ∈ xs, atMost a (xs.foldl gre s) = true
  | [], s => ⟨atMost_refl s, by simp⟩
  | x :: xs, s => by
    obtain ⟨h1, h2⟩ := fold_gre xs (gre s x)
    refine ⟨atMost_trans (gre_ge s x).1 h1, fun a ha => ?_⟩
    rcases List.mem_cons.mp ha with h | h
    · rw [h]; exact atMost_trans (gre_ge s x).2 h1
    · exact h2 a h
theorem least_mono {β : Type} {fs : List β} {g h : β → Am} (h0 : 0 < fs.length) (hm : ∀ f ∈ fs, atMost (g f) (h f) = true) : atMost (leastOf (fs.map g)) (leastOf (fs.map h)) = true := by
  obtain ⟨f, hf, e⟩ := List.mem_map.mp (leastOf_mem (xs := fs.map h) (by simpa using h0))
  rw [← e]
  exact atMost_trans ((fold_lea _ _).2 _ (List.mem_map_of_mem hf)) (hm f hf)
theorem greatest_mono {β : Type} {fs : List β} {g h : β → Am} (h0 : 0 < fs.length) (hm : ∀ f ∈ fs, atMost (g f) (h f) = true) : atMost (greatestOf (fs.map g)) (greatestOf (fs.map h)) = true := by
  obtain ⟨f, hf, e⟩ := List.mem_map.mp (greatestOf_mem (xs := fs.map g) (by simpa using h0))
  rw [← e]
  exact atMost_trans (hm f hf) ((fold_gre _ _).2 _ (List.mem_map_of_mem hf))



theorem fval_ok {n : Nat} {x : List Am} {f : FF} (hx : x.length = n) (hxo : ∀ a ∈ x, okAm a) (hf : okF n f) : okAm (fval x f) := by
  cases f with
  | amount a => exact hf
  | least as =>
    obtain ⟨p, _, e⟩ := List.mem_map.mp (leastOf_mem (xs := as.map fun p => sh (nth x p.1) p.2) (by simpa using hf.1))
    show okAm (leastOf _)
    rw [← e]; exact sh_ok
  | greatest as =>
    obtain ⟨p, _, e⟩ := List.mem_map.mp (greatestOf_mem (xs := as.map fun p => sh (nth x p.1) p.2) (by simpa using hf.1))
    show okAm (greatestOf _)
    rw [← e]; exact sh_ok
  | when j a q =>
    show okAm (if _ then _ else _)
    split
    · exact hxo _ (nth_mem hf.2.1 (hx ▸ hf.2.2))
    · exact Int.le_refl 0
/-- x is at most y at each of n cells -/
def leL (n : Nat) (x y : List Am) : Prop := ∀ i : Int, 0 ≤ i → i < n → atMost (nth x i) (nth y i) = true
theorem leL.refl {n : Nat} {x : List Am} : leL n x x := fun _ _ _ => atMost_refl _
theorem leL.trans {n : Nat} {x y z : List Am} (h : leL n x y) (g : leL n y z) : leL n x z := fun i h0 h1 => atMost_trans (h i h0 h1) (g i h0 h1)
theorem fval_mono {n : Nat} {x y : List Am} {f : FF} (hy : y.length = n) (hyo : ∀ a ∈ y, okAm a) (h : leL n x y) (hf : okF n f) : atMost (fval x f) (fval y f) = true := by
  cases f with
  | amount a => exact atMost_refl a
  | least as => exact least_mono hf.1 fun p hp => sh_mono (h _ (hf.2.2 p hp).1 (hf.2.2 p hp).2)
  | greatest as => exact greatest_mono hf.1 fun p hp => sh_mono (h _ (hf.2.2 p hp).1 (hf.2.2 p hp).2)
  | when j a q =>
    have h1 := h j hf.1.1 hf.1.2
    have h2 := h q hf.2.1 hf.2.2
    by_cases ht : atMost (some a) (nth x j) = true
    · show atMost (if _ then _ else _) (if _ then _ else _) = true
      rw [if_pos ht, if_pos (atMost_trans ht h1)]; exact h2
    · show atMost (if _ then _ else _) (if _ then _ else _) = true
      rw [if_neg ht]
      split
      · exact ge0 (hyo _ (nth_mem hf.2.1 (hy ▸ hf.2.2)))
      · rfl


def mN : Am → Nat
  | none => 1
  | some _ => 0
def mV : Am → Nat
  | none => 0
  | some v => v.toNat
def cntN (x : List Am) : Nat := (x.map mN).sum
def sumN (x : List Am) : Nat := (x.map mV).sum
theorem m_le {a b : Am} (h : atMost a b = true) : mN a < mN b ∨ mN a = mN b ∧ mV a ≤ mV b := by
  cases a <;> cases b
  · exact .inr ⟨rfl, Nat.le_refl _⟩
  · cases h
  · exact .inl Nat.zero_lt_one
  · have := of_decide_eq_true h
    refine .inr ⟨rfl, ?_⟩
    simp only [mV]; omega
theorem m_lt {a b : Am} (hb : okAm b) (h : atMost a b = true) (g : atMost b a = false) (ha : okAm a) : mN a < mN b ∨ mN a = mN b ∧ mV a < mV b := by
  cases a <;> cases b
  · cases g
  · cases h
  · exact .inl Nat.zero_lt_one
  · have h1 := of_decide_eq_true h
    have h2 := of_decide_eq_false g
    refine .inr ⟨rfl, ?_⟩
    have h3 : (0 : Int) ≤ _ := ha
    have h4 : (0 : Int) ≤ _ := hb
    simp only [mV]; omega
/-- cell by cell -/
inductive LL : List Am → List Am → Prop
  | nil : LL [] []
  | cons {a b : Am} {x y : List Am} (h : atMost a b = true) (t : LL x y) : LL (a :: x) (b :: y)
theorem LL.of : ∀ {x y : List Am}, x.length = y.length → leL x.length x y → LL x y
  | [], [], _, _ => .nil
  | [], _ :: _, h, _ => by cases h
  | _ :: _, [], h, _ => by cases h
  | a :: x, b :: y, h, g => .cons (g 0 (by decide) (by simp)) (LL.of (by simpa using h) fun i h0 h1 => by
      have := g (i + 1) (by omega) (by simp; omega)
      have e : (i + 1).toNat = i.toNat + 1 := by omega
      simpa [nth, e] using this)
theorem LL.meas : ∀ {x y : List Am}, LL x y → cntN x < cntN y ∨ cntN x = cntN y ∧ sumN x ≤ sumN y
  | _, _, .nil => .inr ⟨rfl, Nat.le_refl _⟩
  | _, _, .cons h t => by
    have h1 := m_le h
    have h2 := t.meas
    simp only [cntN, sumN, List.map_cons, List.sum_cons] at *
    omega
theorem LL.less : ∀ {x y : List Am}, LL x y → (∀ a ∈ x, okAm a) → (∀ a ∈ y, okAm a) → x ≠ y → cntN x < cntN y ∨ cntN x = cntN y ∧ sumN x < sumN y
  | _, _, .nil, _, _, h => (h rfl).elim
  | _, _, .cons (a := a) (b := b) (x := x) (y := y) h t, hx, hy, hn => by
    have h2 := t.meas
    have h1 := m_le h
    by_cases e : a = b
    · have := t.less (fun a h => hx a (List.mem_cons_of_mem _ h)) (fun a h => hy a (List.mem_cons_of_mem _ h)) (fun e' => hn (by rw [e, e']))
      simp only [cntN, sumN, List.map_cons, List.sum_cons] at *
      omega
    · have g : atMost b a = false := by
        cases g : atMost b a with
        | false => rfl
        | true => exact (e (atMost_anti h g)).elim
      have := m_lt (hy b (by simp)) h g (hx a (by simp))
      simp only [cntN, sumN, List.map_cons, List.sum_cons] at *
      omega
theorem LL.induct {P : List Am → Prop} (h : ∀ u, (∀ a ∈ u, okAm a) → (∀ z, (∀ a ∈ z, okAm a) → LL z u → z ≠ u → P z) → P u) : ∀ u, (∀ a ∈ u, okAm a) → P u := by
  have main : ∀ (c s : Nat) (u : List Am), cntN u = c → sumN u = s → (∀ a ∈ u, okAm a) → P u := by
    intro c
    induction c using Nat.strongRecOn with
    | ind c ihc =>
      intro s
      induction s using Nat.strongRecOn with
      | ind s ihs =>
        intro u hc hs hu
        refine h u hu fun z hz hl hn => ?_
        rcases hl.less hz hu hn with h1 | ⟨h1, h2⟩
        · exact ihc _ (hc ▸ h1) _ z rfl rfl hz
        · exact ihs _ (hs ▸ h2) z (by omega) rfl hz
  exact fun u hu => main _ _ u rfl rfl hu


theorem nth_map {α β : Type} [Inhabited α] [Inhabited β] {f : α → β} {xs : List α} {i : Int} (h0 : 0 ≤ i) (h1 : i < xs.length) : nth (xs.map f) i = f (nth xs i) := by
  have : i.toNat < xs.length := by omega
  simp [nth, List.getD, this]
/-- amounts at most M, steps at most s -/
def msF (M s : Int) : FF → Prop
  | .amount (some a) => a ≤ M
  | .amount none => True
  | .least as => ∀ p ∈ as, p.2 ≤ s
  | .greatest as => ∀ p ∈ as, p.2 ≤ s
  | .when _ a _ => 0 < a
/-- a pre-solution -/
def preS (fs : List FF) (u : List Am) : Prop := leL fs.length (fvals fs u) u
def low (h : Int) : Am → Am
  | some v => if h < v then some (v - 1) else some v
  | none => none
theorem low_le (h : Int) (a : Am) : atMost (low h a) a = true := by
  cases a with
  | none => rfl
  | some v =>
    show atMost (if h < v then _ else _) _ = true
    split
    · exact decide_eq_true (by omega)
    · exact atMost_refl _
theorem low_ok {h : Int} (hh : 0 ≤ h) {a : Am} (ha : okAm a) : okAm (low h a) := by
  cases a with
  | none => trivial
  | some v =>
    show okAm (if h < v then _ else _)
    split
    · show 0 ≤ v - 1; omega
    · exact ha
/-- no value lies above l and up to h -/
def gapL (l h : Int) (u : List Am) : Prop := ∀ w, some w ∈ u → w ≤ l ∨ h < w
theorem sh_low {l h s c : Int} {a : Am} {v : Int} (hh : 0 ≤ h) (hs : h = l + s) (hc : c ≤ s) (hg : ∀ w, a = some w → w ≤ l ∨ h < w) (hv : h < v) (ha : atMost (sh a c) (some v) = true) : atMost (sh (low h a) c) (some (v - 1)) = true := by
  cases a with
  | none => cases ha
  | some w =>
    have h1 := of_decide_eq_true ha
    have h2 := hg w rfl
    show atMost (sh (if h < w then _ else _) c) _ = true
    split
    · exact decide_eq_true (by omega)
    · exact decide_eq_true (by omega)
theorem greatest_le {xs : List Am} {b : Am} (h0 : 0 < xs.length) (h : ∀ a ∈ xs, atMost a b = true) : atMost (greatestOf xs) b = true := h _ (greatestOf_mem h0)
theorem least_le {xs : List Am} {a : Am} (h : a ∈ xs) : atMost (leastOf xs) a = true := (fold_lea xs _).2 a h
theorem le_greatest {xs : List Am} {a : Am} (h : a ∈ xs) : atMost a (greatestOf xs) = true := (fold_gre xs _).2 a h
theorem gap_low {fs : List FF} {u : List Am} {M s l h : Int} (hu : u.length = fs.length) (huo : ∀ a ∈ u, okAm a) (hf : ∀ f ∈ fs, okF fs.length f) (hm : ∀ f ∈ fs, msF M s f) (hh : 0 ≤ h) (hM : M ≤ h) (hs : h = l + s) (hfix : fvals fs u = u) (hg : gapL l h u) : preS fs (u.map (low h)) := by
  intro i h0 h1
  have hi : i < u.length := by omega
  have e1 : nth (fvals fs (u.map (low h))) i = fval (u.map (low h)) (nth fs i) := nth_map h0 h1
  have e2 : nth (u.map (low h)) i = low h (nth u i) := nth_map h0 hi
  have e3 : fval u (nth fs i) = nth u i := by
    have : nth (fvals fs u) i = fval u (nth fs i) := nth_map h0 h1
    rw [← this, hfix]
  have hfi := hf _ (nth_mem h0 h1)
  have hmi := hm _ (nth_mem h0 h1)
  have hle : leL fs.length (u.map (low h)) u := fun j j0 j1 => by
    rw [nth_map j0 (by omega)]; exact low_le _ _
  have hmo := fval_mono hu huo hle hfi
  rw [e1, e2]
  rw [e3] at hmo
  have gj : ∀ j : Int, 0 ≤ j → j < fs.length → ∀ w, nth u j = some w → w ≤ l ∨ h < w := fun j j0 j1 w hw => hg w (by rw [← hw]; exact nth_mem j0 (by omega))
  cases hui : nth u i with
  | none => exact (by cases fval (u.map (low h)) (nth fs i) <;> rfl)
  | some v =>
    rw [hui] at hmo e3
    by_cases hv : h < v
    · show atMost _ (if h < v then _ else _) = true
      rw [if_pos hv]
      generalize nth fs i = f at *
      cases f with
      | amount a =>
        cases a with
        | none => cases e3
        | some b =>
          have : b = v := by injection e3
          have : b ≤ M := hmi
          omega
      | least as =>
        obtain ⟨p, hp, e⟩ := List.mem_map.mp (leastOf_mem (xs := as.map fun p => sh (nth u p.1) p.2) (by simpa using hfi.1))
        have hj := hfi.2.2 p hp
        refine atMost_trans (least_le (List.mem_map_of_mem hp)) ?_
        rw [nth_map hj.1 (by omega)]
        refine sh_low hh hs (hmi p hp) (gj p.1 hj.1 hj.2) hv ?_
        rw [e, show leastOf (as.map fun p => sh (nth u p.1) p.2) = some v from e3]
        exact atMost_refl _
      | greatest as =>
        refine greatest_le (by simpa using hfi.1) fun a ha => ?_
        obtain ⟨p, hp, rfl⟩ := List.mem_map.mp ha
        have hj := hfi.2.2 p hp
        rw [nth_map hj.1 (by omega)]
        refine sh_low hh hs (hmi p hp) (gj p.1 hj.1 hj.2) hv ?_
        rw [← e3]
        exact le_greatest (List.mem_map_of_mem hp)
      | when j a q =>
        have e4 : (if atMost (some a) (nth u j) = true then nth u q else some 0) = some v := e3
        have hq : nth u q = some v := by
          split at e4
          · exact e4
          · injection e4; omega
        show atMost (if _ then _ else _) _ = true
        split
        · rw [nth_map hfi.2.1 (by rw [hu]; exact hfi.2.2), hq]
          show atMost (if h < v then _ else _) _ = true
          rw [if_pos hv]; exact atMost_refl _
        · exact decide_eq_true (by omega)
    · show atMost _ (if h < v then _ else _) = true
      rw [if_neg hv]; exact hmo



def inIv (a b : Int) : Am → Bool
  | some w => decide (a < w) && decide (w ≤ b)
  | none => false
theorem count_add (a b c : Int) (hab : a ≤ b) (hbc : b ≤ c) : ∀ u : List Am, u.countP (inIv a b) + u.countP (inIv b c) = u.countP (inIv a c)
  | [] => rfl
  | x :: u => by
    have ih := count_add a b c hab hbc u
    simp only [List.countP_cons]
    have : ((if inIv a b x = true then 1 else 0) + (if inIv b c x = true then 1 else 0) : Nat) = if inIv a c x = true then 1 else 0 := by
      cases x with
      | none => rfl
      | some w =>
        simp only [inIv, Bool.and_eq_true, decide_eq_true_eq]
        by_cases h1 : a < w <;> by_cases h2 : w ≤ b <;> by_cases h3 : b < w <;> by_cases h4 : w ≤ c <;> simp [h1, h2, h3, h4] <;> omega
    omega
theorem gap_is {M s : Int} (hs : 0 ≤ s) (u : List Am) (n : Nat) (hn : u.length = n) (hi : ∃ a ∈ u, inIv M (M + s * n) a = false) : ∃ k : Nat, k < n ∧ gapL (M + s * k) (M + s * k + s) u := by
  apply Classical.byContradiction
  intro hno
  have all : ∀ k : Nat, k < n → 0 < u.countP (inIv (M + s * k) (M + s * k + s)) := by
    intro k hk
    refine Nat.pos_of_ne_zero fun h0 => hno ⟨k, hk, fun w hw => ?_⟩
    have := List.countP_eq_zero.mp h0 _ hw
    simp only [inIv, Bool.and_eq_true, decide_eq_true_eq] at this
    omega
  have main : ∀ m : Nat, m ≤ n → m ≤ u.countP (inIv M (M + s * m)) := by
    intro m
    induction m with
    | zero => intro _; exact Nat.zero_le _
    | succ m ih =>
      intro hm
      have h1 := ih (by omega)
      have h2 := all m (by omega)
      have h3 : (0 : Int) ≤ s * m := Int.mul_nonneg hs (by omega)
      have h4 := count_add M (M + s * m) (M + s * m + s) (by omega) (by omega) u
      have e : M + s * ((m + 1 : Nat) : Int) = M + s * m + s := by
        rw [Int.natCast_add, Int.mul_add]; simp [Int.add_assoc]
      rw [e]; omega
  have h1 := main n (Nat.le_refl n)
  obtain ⟨a, ha, hf⟩ := hi
  have h2 : u.countP (inIv M (M + s * n)) < u.length := by
    refine Nat.lt_of_le_of_ne List.countP_le_length fun e => ?_
    have := List.countP_eq_length.mp e a ha
    rw [hf] at this; cases this
  omega


def okL (x : List Am) : Prop := ∀ a ∈ x, okAm a
/-- a system of n cells: values grow; numbers come from M at most and step by s at most -/
structure Sy (n : Nat) (M s : Int) (F : List Am → List Am) : Prop where
  s0 : 0 ≤ s
  m0 : 0 ≤ M
  len : ∀ x, (F x).length = n
  ok : ∀ x, x.length = n → okL x → okL (F x)
  mono : ∀ x y, x.length = n → y.length = n → okL y → leL n x y → leL n (F x) (F y)
  gap : ∀ u l h, u.length = n → okL u → M ≤ l → h = l + s → F u = u → gapL l h u → leL n (F (u.map (low h))) (u.map (low h))
  bump : ∀ x m, x.length = n → okL x → M ≤ m → (∀ v, some v ∈ x → v ≤ m) → ∀ v, some v ∈ F x → v ≤ m + s
/-- the least solution -/
structure IsL (n : Nat) (F : List Am → List Am) (x : List Am) : Prop where
  len : x.length = n
  ok : okL x
  fix : F x = x
  low : ∀ v : List Am, v.length = n → okL v → leL n (F v) v → leL n x v
/-- the greatest solution -/
structure IsG (n : Nat) (F : List Am → List Am) (x : List Am) : Prop where
  len : x.length = n
  ok : okL x
  fix : F x = x
  high : ∀ v : List Am, v.length = n → okL v → leL n v (F v) → leL n v x
theorem LL.of' {n : Nat} {x y : List Am} (hx : x.length = n) (hy : y.length = n) (h : leL n x y) : LL x y := LL.of (by omega) (by rw [hx]; exact h)
theorem LL.eq : ∀ {x y : List Am}, LL x y → LL y x → x = y
  | _, _, .nil, _ => rfl
  | _, _, .cons h t, .cons h' t' => by rw [atMost_anti h h', t.eq t']
theorem leL_eq {n : Nat} {x y : List Am} (hx : x.length = n) (hy : y.length = n) (h : leL n x y) (g : leL n y x) : x = y := (LL.of' hx hy h).eq (LL.of' hy hx g)
theorem leL_of_eq {n : Nat} {x y : List Am} (h : x = y) : leL n x y := h ▸ leL.refl
theorem IsL.uniq {n : Nat} {F : List Am → List Am} {x y : List Am} (h : IsL n F x) (g : IsL n F y) : x = y :=
  leL_eq h.len g.len (h.low y g.len g.ok (leL_of_eq g.fix)) (g.low x h.len h.ok (leL_of_eq h.fix))
theorem IsG.uniq {n : Nat} {F : List Am → List Am} {x y : List Am} (h : IsG n F x) (g : IsG n F y) : x = y :=
  leL_eq h.len g.len (g.high x h.len h.ok (leL_of_eq h.fix.symm)) (h.high y g.len g.ok (leL_of_eq g.fix.symm))

/-- what passes the bound is endless -/
def cap (B : Int) : Am → Am
  | none => none
  | some v => if B < v then none else some v
theorem cap_ge (B : Int) (a : Am) : atMost a (cap B a) = true := by
  cases a with
  | none => rfl
  | some v =>
    show atMost _ (if B < v then none else some v) = true
    split
    · rfl
    · exact atMost_refl _
theorem cap_mono {B : Int} {a b : Am} (h : atMost a b = true) : atMost (cap B a) (cap B b) = true := by
  cases b with
  | none => exact (by cases cap B a <;> rfl)
  | some w =>
    cases a with
    | none => cases h
    | some v =>
      have := of_decide_eq_true h
      show atMost (if B < v then none else some v) (if B < w then none else some w) = true
      by_cases h1 : B < v
      · rw [if_pos h1, if_pos (by omega)]; rfl
      · rw [if_neg h1]
        split
        · rfl
        · exact h
theorem cap_ok {B : Int} {a : Am} (h : okAm a) : okAm (cap B a) := by
  cases a with
  | none => trivial
  | some v =>
    show okAm (if B < v then none else some v)
    split
    · trivial
    · exact h
theorem cap_some {B v : Int} {a : Am} (h : cap B a = some v) : v ≤ B := by
  cases a with
  | none => cases h
  | some w =>
    by_cases e : B < w
    · rw [show cap B (some w) = none from if_pos e] at h; cases h
    · rw [show cap B (some w) = some w from if_neg e] at h
      injection h; omega
def capL (F : List Am → List Am) (B : Int) (x : List Am) : List Am := (F x).map (cap B)
def up (F : List Am → List Am) (B : Int) (n : Nat) : Nat → List Am
  | 0 => List.replicate n (some 0)
  | t + 1 => capL F B (up F B n t)
theorem nth_rep {n : Nat} {a : Am} {i : Int} (h0 : 0 ≤ i) (h1 : i < n) : nth (List.replicate n a) i = a := by
  have : i.toNat < n := by omega
  simp [nth, List.getD, this]
section
variable {n : Nat} {M s B : Int} {F : List Am → List Am}
theorem capL_len (S : Sy n M s F) (x : List Am) : (capL F B x).length = n := by simp [capL, S.len]
theorem up_len (S : Sy n M s F) : ∀ t, (up F B n t).length = n
  | 0 => by simp [up]
  | t + 1 => capL_len S _
theorem up_ok (S : Sy n M s F) : ∀ t, okL (up F B n t)
  | 0, a, ha => by
    rw [(List.mem_replicate.mp ha).2]
    exact Int.le_refl 0
  | t + 1, a, ha => by
    obtain ⟨b, h, rfl⟩ := List.mem_map.mp ha
    exact cap_ok (S.ok _ (up_len S t) (up_ok S t) b h)
theorem nth_capL (S : Sy n M s F) {x : List Am} {i : Int} (h0 : 0 ≤ i) (h1 : i < n) : nth (capL F B x) i = cap B (nth (F x) i) := nth_map h0 (by rw [S.len]; exact h1)
theorem capL_mono (S : Sy n M s F) {x y : List Am} (hx : x.length = n) (hy : y.length = n) (hyo : okL y) (h : leL n x y) : leL n (capL F B x) (capL F B y) := fun i h0 h1 => by
  rw [nth_capL S h0 h1, nth_capL S h0 h1]
  exact cap_mono (S.mono x y hx hy hyo h i h0 h1)
theorem zero_le {y : List Am} (hy : y.length = n) (hyo : okL y) : leL n (List.replicate n (some 0)) y := fun i h0 h1 => by
  rw [nth_rep h0 h1]
  exact ge0 (hyo _ (nth_mem h0 (by omega)))
theorem up_up (S : Sy n M s F) : ∀ t, leL n (up F B n t) (up F B n (t + 1))
  | 0 => zero_le (up_len S 1) (up_ok S 1)
  | t + 1 => capL_mono S (up_len S t) (up_len S (t + 1)) (up_ok S (t + 1)) (up_up S t)
theorem up_below (S : Sy n M s F) {v : List Am} (hv : v.length = n) (hvo : okL v) (h : leL n (capL F B v) v) : ∀ t, leL n (up F B n t) v
  | 0 => zero_le hv hvo
  | t + 1 => (capL_mono S (up_len S t) hv hvo (up_below S hv hvo h t)).trans h
/-- the end of the rounds is below every pre-solution -/
theorem up_le (S : Sy n M s F) {t : Nat} (hB : M + s * n ≤ B) : ∀ v : List Am, okL v → v.length = n → leL n (F v) v → leL n (up F B n t) v := by
  refine LL.induct fun v hvo ih hv hp => ?_
  have hs := S.s0
  have hM := S.m0
  have hF := S.len v
  by_cases hG : leL n (capL F B v) v
  · exact up_below S hv hvo hG t
  · have : ∃ i : Int, 0 ≤ i ∧ i < n ∧ atMost (nth (capL F B v) i) (nth v i) = false := by
      apply Classical.byContradiction
      intro hno
      refine hG fun i h0 h1 => ?_
      cases e : atMost (nth (capL F B v) i) (nth v i) with
      | true => rfl
      | false => exact (hno ⟨i, h0, h1, e⟩).elim
    obtain ⟨i, h0, h1, hi⟩ := this
    rw [nth_capL S h0 h1] at hi
    have hpi := hp i h0 h1
    have hbig : ∃ w, nth v i = some w ∧ B < w := by
      cases hw : nth v i with
      | none => rw [hw] at hi; cases h : cap B (nth (F v) i) <;> rw [h] at hi <;> cases hi
      | some w =>
        rw [hw] at hi hpi
        cases hF' : nth (F v) i with
        | none => rw [hF'] at hpi; cases hpi
        | some u =>
          rw [hF'] at hi hpi
          have h2 := of_decide_eq_true hpi
          refine ⟨w, rfl, ?_⟩
          by_cases h3 : B < u
          · omega
          · rw [show cap B (some u) = some u from if_neg h3] at hi
            have := of_decide_eq_false hi
            omega
    obtain ⟨w, hw, hwB⟩ := hbig
    by_cases he : F v = v
    · have hvi : nth v i ∈ v := nth_mem h0 (by omega)
      obtain ⟨k, hk, hg⟩ := gap_is (M := M) hs v n hv ⟨_, hvi, by rw [hw]; simp only [inIv, Bool.and_eq_false_iff, decide_eq_false_iff_not]; right; omega⟩
      have hsk : (0 : Int) ≤ s * k := Int.mul_nonneg hs (by omega)
      have hsn : s * k + s ≤ s * n := by
        have : s * ((k : Int) + 1) ≤ s * n := Int.mul_le_mul_of_nonneg_left (by omega) hs
        rwa [Int.mul_add, Int.mul_one] at this
      have hz := S.gap v _ (M + s * k + s) hv hvo (by omega) rfl he hg
      have hzl : (v.map (low (M + s * k + s))).length = n := by simpa using hv
      have hle : leL n (v.map (low (M + s * k + s))) v := fun j j0 j1 => by
        rw [nth_map j0 (by omega)]; exact low_le _ _
      have hzo : okL (v.map (low (M + s * k + s))) := fun a ha => by
        obtain ⟨b, hb, rfl⟩ := List.mem_map.mp ha
        exact low_ok (by omega) (hvo b hb)
      refine (ih _ hzo (LL.of' hzl hv hle) (fun e => ?_) hzl hz).trans hle
      have := congrArg (fun l => nth l i) e
      rw [nth_map h0 (by omega), hw] at this
      have h5 : low (M + s * k + s) (some w) = some (w - 1) := if_pos (by omega)
      rw [h5] at this
      injection this; omega
    · exact (ih _ (S.ok v hv hvo) (LL.of' hF hv hp) he hF (S.mono _ _ hF hv hvo hp)).trans hp
/-- where the rounds stand, there is the least solution -/
theorem up_isL (S : Sy n M s F) {t : Nat} (hB : M + s * n ≤ B) (he : up F B n (t + 1) = up F B n t) : IsL n F (up F B n t) := by
  have hl := up_len (B := B) S t
  have ho := up_ok (B := B) S t
  have hF := S.len (up F B n t)
  have hp : leL n (F (up F B n t)) (up F B n t) := fun i h0 h1 => by
    have h2 : nth (up F B n t) i = cap B (nth (F (up F B n t)) i) := by
      have h3 : nth (up F B n (t + 1)) i = cap B (nth (F (up F B n t)) i) := nth_capL S h0 h1
      rwa [he] at h3
    rw [h2]; exact cap_ge B _
  refine ⟨hl, ho, leL_eq hF hl hp (up_le S hB _ (S.ok _ hl ho) hF (S.mono _ _ hF hl ho hp)), fun v hv hvo hpv => up_le S hB v hvo hv hpv⟩
theorem up_cap (S : Sy n M s F) (hB : 0 ≤ B) : ∀ t, ∀ v, some v ∈ up F B n t → v ≤ B
  | 0, v, ha => by
    have := (List.mem_replicate.mp ha).2
    injection this; omega
  | t + 1, v, ha => by
    obtain ⟨b, _, e⟩ := List.mem_map.mp ha
    exact cap_some e

/-- none counts as B + 1 -/
def capV (B : Int) : Am → Nat
  | none => (B + 1).toNat
  | some v => v.toNat
def sumC (B : Int) (x : List Am) : Nat := (x.map (capV B)).sum
def capB (B : Int) (a : Am) : Prop := ∀ v, a = some v → 0 ≤ v ∧ v ≤ B
theorem capV_le {B : Int} {a : Am} (h : capB B a) : capV B a ≤ (B + 1).toNat := by
  cases a with
  | none => exact Nat.le_refl _
  | some v =>
    have := h v rfl
    show v.toNat ≤ _
    omega
theorem capV_lt {B : Int} {a b : Am} (ha : capB B a) (hb : capB B b) (h : atMost a b = true) : capV B a < capV B b ∨ a = b := by
  cases a with
  | none =>
    cases b with
    | none => exact .inr rfl
    | some w => cases h
  | some v =>
    have h1 := ha v rfl
    cases b with
    | none => left; show v.toNat < (B + 1).toNat; omega
    | some w =>
      have h2 := hb w rfl
      have h3 := of_decide_eq_true h
      by_cases e : v = w
      · right; rw [e]
      · left; show v.toNat < w.toNat; omega
theorem LL.cap {B : Int} : ∀ {x y : List Am}, LL x y → (∀ a ∈ x, capB B a) → (∀ a ∈ y, capB B a) → sumC B x < sumC B y ∨ x = y
  | _, _, .nil, _, _ => .inr rfl
  | _, _, .cons (a := a) (b := b) (x := x) (y := y) h t, hx, hy => by
    have h1 := capV_lt (hx a (by simp)) (hy b (by simp)) h
    have h2 := t.cap (fun a h => hx a (List.mem_cons_of_mem _ h)) (fun a h => hy a (List.mem_cons_of_mem _ h))
    rcases h1 with h1 | h1 <;> rcases h2 with h2 | h2
    · left; simp only [sumC, List.map_cons, List.sum_cons] at *; omega
    · left; subst h2; simp only [sumC, List.map_cons, List.sum_cons] at *; omega
    · left; subst h1; simp only [sumC, List.map_cons, List.sum_cons] at *; omega
    · right; rw [h1, h2]
theorem sumC_le {B : Int} : ∀ {x : List Am}, (∀ a ∈ x, capB B a) → sumC B x ≤ x.length * (B + 1).toNat
  | [], _ => Nat.zero_le _
  | a :: x, h => by
    have h1 := capV_le (h a (by simp))
    have h2 := sumC_le (x := x) fun a h' => h a (List.mem_cons_of_mem _ h')
    simp only [sumC, List.map_cons, List.sum_cons, List.length_cons, Nat.add_mul, Nat.one_mul] at *
    omega
theorem up_capB (S : Sy n M s F) (hB : 0 ≤ B) (t : Nat) : ∀ a ∈ up F B n t, capB B a := fun a ha v e => ⟨by have := up_ok S t a ha; rw [e] at this; exact this, up_cap S hB t v (e ▸ ha)⟩
theorem up_stand (S : Sy n M s F) (hB : 0 ≤ B) : ∃ t, t ≤ n * (B + 1).toNat ∧ up F B n (t + 1) = up F B n t := by
  apply Classical.byContradiction
  intro hno
  have hc := up_capB S hB
  have main : ∀ t, t ≤ n * (B + 1).toNat + 1 → t ≤ sumC B (up F B n t) := by
    intro t
    induction t with
    | zero => intro _; exact Nat.zero_le _
    | succ t ih =>
      intro ht
      have h1 := ih (by omega)
      rcases (LL.of' (up_len S t) (up_len S (t + 1)) (up_up S t)).cap (hc t) (hc (t + 1)) with h | h
      · omega
      · exact (hno ⟨t, by omega, h.symm⟩).elim
  have h1 := main _ (Nat.le_refl _)
  have h2 := sumC_le (hc (n * (B + 1).toNat + 1))
  rw [up_len S] at h2
  omega
theorem up_later {t : Nat} (h : up F B n (t + 1) = up F B n t) : ∀ k, up F B n (t + k) = up F B n t
  | 0 => rfl
  | k + 1 => by
    show capL F B (up F B n (t + k)) = _
    rw [up_later h k]; exact h
/-- so many rounds are enough -/
theorem up_end (S : Sy n M s F) (hB : M + s * n ≤ B) {N : Nat} (hN : n * (B + 1).toNat ≤ N) : IsL n F (up F B n N) := by
  have h0 : (0 : Int) ≤ s * n := Int.mul_nonneg S.s0 (by omega)
  have := S.m0
  obtain ⟨t, ht, he⟩ := up_stand (B := B) S (by omega)
  obtain ⟨k, rfl⟩ : ∃ k, N = t + k := ⟨N - t, by omega⟩
  rw [up_later he k]
  exact up_isL S hB he
theorem has_least (S : Sy n M s F) : ∃ x, IsL n F x := ⟨_, up_end S (Int.le_refl _) (Nat.le_refl _)⟩
/-- no number of the least solution is greater than M + s n -/
theorem IsL.le (S : Sy n M s F) {x : List Am} (h : IsL n F x) : ∀ v, some v ∈ x → v ≤ M + s * n := by
  have h0 : (0 : Int) ≤ s * n := Int.mul_nonneg S.s0 (by omega)
  have := S.m0
  rw [h.uniq (up_end S (Int.le_refl _) (Nat.le_refl _))]
  exact up_cap S (by omega) _

def dn (F : List Am → List Am) (n : Nat) : Nat → List Am
  | 0 => List.replicate n none
  | t + 1 => F (dn F n t)
theorem dn_len (S : Sy n M s F) : ∀ t, (dn F n t).length = n
  | 0 => by simp [dn]
  | t + 1 => S.len _
theorem dn_ok (S : Sy n M s F) : ∀ t, okL (dn F n t)
  | 0, a, ha => by
    rw [(List.mem_replicate.mp ha).2]
    trivial
  | t + 1, a, ha => S.ok _ (dn_len S t) (dn_ok S t) a ha
theorem le_none {x : List Am} : leL n x (List.replicate n none) := fun i h0 h1 => by
  rw [nth_rep h0 h1]
  cases nth x i <;> rfl
theorem dn_dn (S : Sy n M s F) : ∀ t, leL n (dn F n (t + 1)) (dn F n t)
  | 0 => le_none
  | t + 1 => S.mono _ _ (dn_len S (t + 1)) (dn_len S t) (dn_ok S t) (dn_dn S t)
theorem dn_above (S : Sy n M s F) {v : List Am} (hv : v.length = n) (hvo : okL v) (h : leL n v (F v)) : ∀ t, leL n v (dn F n t)
  | 0 => le_none
  | t + 1 => h.trans (S.mono _ _ hv (dn_len S t) (dn_ok S t) (dn_above S hv hvo h t))
theorem dn_isG (S : Sy n M s F) {t : Nat} (he : dn F n (t + 1) = dn F n t) : IsG n F (dn F n t) := ⟨dn_len S t, dn_ok S t, he, fun _ hv hvo h => dn_above S hv hvo h t⟩
/-- the cells with a number -/
def cntF (x : List Am) : Nat := x.countP Option.isSome
theorem LL.cnt : ∀ {x y : List Am}, LL x y → cntF y ≤ cntF x ∧ (cntF y = cntF x → ∀ m : Int, (∀ v, some v ∈ y → v ≤ m) → ∀ v, some v ∈ x → v ≤ m)
  | _, _, .nil => ⟨Nat.le_refl _, fun _ _ h => h⟩
  | _, _, .cons (a := a) (b := b) (x := x) (y := y) h t => by
    obtain ⟨h1, h2⟩ := t.cnt
    have ha : cntF (a :: x) = cntF x + (if a.isSome then 1 else 0) := List.countP_cons
    have hb : cntF (b :: y) = cntF y + (if b.isSome then 1 else 0) := List.countP_cons
    rw [ha, hb]
    have hm : ∀ m : Int, (∀ v, some v ∈ b :: y → v ≤ m) → ∀ v, some v ∈ y → v ≤ m := fun m g v hv => g v (List.mem_cons_of_mem _ hv)
    cases a with
    | none =>
      cases b with
      | none =>
        refine ⟨h1, fun e m g v hv => ?_⟩
        rcases List.mem_cons.mp hv with z | z
        · cases z
        · exact h2 e m (hm m g) v z
      | some w => cases h
    | some u =>
      cases b with
      | none =>
        refine ⟨by simp; omega, fun e => ?_⟩
        simp at e; omega
      | some w =>
        refine ⟨by simp; omega, fun e m g v hv => ?_⟩
        simp at e
        have h3 := of_decide_eq_true h
        have h4 := g w (by simp)
        rcases List.mem_cons.mp hv with z | z
        · injection z; omega
        · exact h2 e m (hm m g) v z
theorem dn_bound (S : Sy n M s F) : ∀ t, ∀ v, some v ∈ dn F n t → v ≤ M + s * (cntF (dn F n t) : Int)
  | 0, v, hv => by
    have := (List.mem_replicate.mp hv).2
    cases this
  | t + 1, v, hv => by
    have ih := dn_bound S t
    obtain ⟨h1, h2⟩ := (LL.of' (dn_len S (t + 1)) (dn_len S t) (dn_dn S t)).cnt
    by_cases e : cntF (dn F n t) = cntF (dn F n (t + 1))
    · rw [← e]
      exact h2 e _ ih v hv
    · have h0 : (0 : Int) ≤ s * (cntF (dn F n t) : Int) := Int.mul_nonneg S.s0 (by omega)
      have h3 := S.bump _ (M + s * (cntF (dn F n t) : Int)) (dn_len S t) (dn_ok S t) (by omega) ih v hv
      have h4 : s * ((cntF (dn F n t) : Int) + 1) ≤ s * (cntF (dn F n (t + 1)) : Int) := Int.mul_le_mul_of_nonneg_left (by omega) S.s0
      rw [Int.mul_add, Int.mul_one] at h4
      omega
theorem dn_capB (S : Sy n M s F) (t : Nat) : ∀ a ∈ dn F n t, capB (M + s * n) a := fun a ha v e => by
  have h1 := dn_ok S t a ha
  rw [e] at h1
  have h2 := dn_bound S t v (e ▸ ha)
  have h3 : cntF (dn F n t) ≤ n := by
    have := List.countP_le_length (p := Option.isSome) (l := dn F n t)
    rw [dn_len S] at this
    exact this
  have h4 : s * (cntF (dn F n t) : Int) ≤ s * n := Int.mul_le_mul_of_nonneg_left (by omega) S.s0
  exact ⟨h1, by omega⟩
theorem dn_stand (S : Sy n M s F) : ∃ t, t ≤ n * (M + s * n + 1).toNat ∧ dn F n (t + 1) = dn F n t := by
  apply Classical.byContradiction
  intro hno
  have hc := dn_capB S
  have main : ∀ t, t ≤ n * (M + s * n + 1).toNat + 1 → sumC (M + s * n) (dn F n t) + t ≤ n * (M + s * n + 1).toNat := by
    intro t
    induction t with
    | zero =>
      intro _
      have := sumC_le (hc 0)
      rw [dn_len S] at this
      omega
    | succ t ih =>
      intro ht
      have h1 := ih (by omega)
      rcases (LL.of' (dn_len S (t + 1)) (dn_len S t) (dn_dn S t)).cap (hc (t + 1)) (hc t) with h | h
      · omega
      · exact (hno ⟨t, by omega, h⟩).elim
  have h1 := main _ (Nat.le_refl _)
  omega
theorem dn_later {t : Nat} (h : dn F n (t + 1) = dn F n t) : ∀ k, dn F n (t + k) = dn F n t
  | 0 => rfl
  | k + 1 => by
    show F (dn F n (t + k)) = _
    rw [dn_later h k]; exact h
theorem dn_end (S : Sy n M s F) {N : Nat} (hN : n * (M + s * n + 1).toNat ≤ N) : IsG n F (dn F n N) := by
  obtain ⟨t, ht, he⟩ := dn_stand S
  obtain ⟨k, rfl⟩ : ∃ k, N = t + k := ⟨N - t, by omega⟩
  rw [dn_later he k]
  exact dn_isG S he
theorem has_greatest (S : Sy n M s F) : ∃ x, IsG n F x := ⟨_, dn_end S (Nat.le_refl _)⟩
theorem IsG.le (S : Sy n M s F) {x : List Am} (h : IsG n F x) : ∀ v, some v ∈ x → v ≤ M + s * n := fun v hv => by
  rw [h.uniq (dn_end S (Nat.le_refl _))] at hv
  exact (dn_capB S _ _ hv v rfl).2
end


def rkS (n : Nat) (G : List Am → Nat → Bool) (t : Nat) (rs : List Am) : List Am := (List.range n).map fun c : Nat => match nth rs (c : Int) with
  | some v => some v
  | none => if G rs c = true then some ((t : Int) + 1) else none
def rkL (n : Nat) (G : List Am → Nat → Bool) (rs0 : List Am) : Nat → List Am
  | 0 => rs0
  | t + 1 => rkS n G t (rkL n G rs0 t)
theorem nth_range {α : Type} [Inhabited α] {n c : Nat} {f : Nat → α} (h : c < n) : nth ((List.range n).map f) (c : Int) = f c := by
  simp [nth, List.getD, h]
section
variable {n : Nat} {G : List Am → Nat → Bool} {rs0 : List Am}
theorem rkS_nth {t c : Nat} {rs : List Am} (h : c < n) : nth (rkS n G t rs) (c : Int) = match nth rs (c : Int) with
  | some v => some v
  | none => if G rs c = true then some ((t : Int) + 1) else none := nth_range h
theorem rk_len (h : rs0.length = n) : ∀ t, (rkL n G rs0 t).length = n
  | 0 => h
  | t + 1 => by simp [rkL, rkS]
theorem rk_step {t c : Nat} {v : Int} (hc : c < n) (h : nth (rkL n G rs0 t) (c : Int) = some v) : nth (rkL n G rs0 (t + 1)) (c : Int) = some v := by
  show nth (rkS n G t _) _ = _
  rw [rkS_nth hc, h]
theorem rk_keep {t c : Nat} {v : Int} (hc : c < n) (h : nth (rkL n G rs0 t) (c : Int) = some v) : ∀ k, nth (rkL n G rs0 (t + k)) (c : Int) = some v
  | 0 => h
  | k + 1 => rk_step hc (rk_keep hc h k)
theorem rk_keep' {t u c : Nat} {v : Int} (hc : c < n) (h : nth (rkL n G rs0 t) (c : Int) = some v) (hu : t ≤ u) : nth (rkL n G rs0 u) (c : Int) = some v := by
  obtain ⟨k, rfl⟩ : ∃ k, u = t + k := ⟨u - t, by omega⟩
  exact rk_keep hc h k
theorem rk_born {c : Nat} {v : Int} (hc : c < n) : ∀ t, nth (rkL n G rs0 t) (c : Int) = some v → nth rs0 (c : Int) = some v ∨ ∃ u, u < t ∧ v = (u : Int) + 1 ∧ nth (rkL n G rs0 u) (c : Int) = none ∧ G (rkL n G rs0 u) c = true
  | 0, h => .inl h
  | t + 1, h => by
    have h : nth (rkS n G t (rkL n G rs0 t)) (c : Int) = some v := h
    rw [rkS_nth hc] at h
    cases e : nth (rkL n G rs0 t) (c : Int) with
    | some w =>
      rw [e] at h
      have h : w = v := by injection h
      subst h
      rcases rk_born hc t e with z | ⟨u, hu, r⟩
      · exact .inl z
      · exact .inr ⟨u, by omega, r⟩
    | none =>
      rw [e] at h
      dsimp only at h
      split at h
      · rename_i g
        injection h with h
        exact .inr ⟨t, by omega, h.symm, e, g⟩
      · cases h
theorem rk_le (h0 : ∀ c v, c < n → nth rs0 ((c : Nat) : Int) = some v → v = 0) {t c : Nat} {v : Int} (hc : c < n) (h : nth (rkL n G rs0 t) (c : Int) = some v) : 0 ≤ v ∧ v ≤ t := by
  rcases rk_born hc t h with z | ⟨u, hu, e, _⟩
  · have := h0 c v hc z; omega
  · omega
/-- kept where told -/
inductive KP : List Am → List Am → Prop
  | nil : KP [] []
  | none {b : Am} {x y : List Am} (t : KP x y) : KP (none :: x) (b :: y)
  | some {v : Int} {x y : List Am} (t : KP x y) : KP (some v :: x) (some v :: y)
theorem KP.of : ∀ {x y : List Am}, x.length = y.length → (∀ (c : Nat) v, c < x.length → nth x (c : Int) = Option.some v → nth y (c : Int) = Option.some v) → KP x y
  | [], [], _, _ => .nil
  | [], _ :: _, h, _ => by cases h
  | _ :: _, [], h, _ => by cases h
  | a :: x, b :: y, h, g => by
    have t : KP x y := KP.of (by simpa using h) fun c v hc e => by
      have := g (c + 1) v (by simp; omega) (by
        have q : ((c + 1 : Nat) : Int).toNat = c + 1 := by omega
        have q2 : ((c : Nat) : Int).toNat = c := by omega
        simpa [nth, q, q2] using e)
      have q : ((c + 1 : Nat) : Int).toNat = c + 1 := by omega
      have q2 : ((c : Nat) : Int).toNat = c := by omega
      simpa [nth, q, q2] using this
    cases a with
    | none => exact .none t
    | some v =>
      have h0 : nth (b :: y) ((0 : Nat) : Int) = Option.some v := g 0 v (by simp) rfl
      have e : b = Option.some v := by simpa [nth] using h0
      subst e
      exact .some t
theorem KP.cnt : ∀ {x y : List Am}, KP x y → cntF x < cntF y ∨ x = y
  | _, _, .nil => .inr rfl
  | _, _, .none (b := b) (x := x) (y := y) t => by
    have ha : cntF (Option.none :: x) = cntF x + (if (Option.none : Am).isSome then 1 else 0) := List.countP_cons
    have hb : cntF (b :: y) = cntF y + (if b.isSome then 1 else 0) := List.countP_cons
    rw [ha, hb]
    rcases t.cnt with h | h
    · left; cases b <;> simp <;> omega
    · subst h
      cases b with
      | none => right; rfl
      | some w => left; simp
  | _, _, .some (v := v) (x := x) (y := y) t => by
    have ha : cntF (Option.some v :: x) = cntF x + 1 := by
      have : cntF (Option.some v :: x) = cntF x + (if (Option.some v : Am).isSome then 1 else 0) := List.countP_cons
      simpa using this
    have hb : cntF (Option.some v :: y) = cntF y + 1 := by
      have : cntF (Option.some v :: y) = cntF y + (if (Option.some v : Am).isSome then 1 else 0) := List.countP_cons
      simpa using this
    rw [ha, hb]
    rcases t.cnt with h | h
    · left; omega
    · right; rw [h]
theorem rk_stay {t : Nat} (hl : rs0.length = n) (h : rkL n G rs0 (t + 1) = rkL n G rs0 t) : ∀ c, c < n → nth (rkL n G rs0 t) (c : Int) = none → G (rkL n G rs0 t) c = false := fun c hc e => by
  have h2 := congrArg (fun l => nth l (c : Int)) h
  have h2 : nth (rkS n G t (rkL n G rs0 t)) (c : Int) = nth (rkL n G rs0 t) (c : Int) := h2
  rw [rkS_nth hc, e] at h2
  cases g : G (rkL n G rs0 t) c with
  | false => rfl
  | true => rw [g] at h2; cases h2
theorem rk_const {t : Nat} (hl : rs0.length = n) (h : rkL n G rs0 (t + 1) = rkL n G rs0 t) : ∀ k, rkL n G rs0 (t + k) = rkL n G rs0 t
  | 0 => rfl
  | k + 1 => by
    have ih := rk_const hl h k
    show rkS n G (t + k) (rkL n G rs0 (t + k)) = _
    rw [ih]
    have st := rk_stay hl h
    refine List.ext_getElem (by rw [rk_len hl]; simp [rkS]) fun i h1 h2 => ?_
    have hi : i < n := by rw [rk_len hl] at h2; exact h2
    have e1 := rkS_nth (G := G) (t := t + k) (rs := rkL n G rs0 t) hi
    have e2 : nth (rkL n G rs0 t) (i : Int) = (rkL n G rs0 t)[i] := by simp [nth, List.getD, h2]
    have e3 : nth (rkS n G (t + k) (rkL n G rs0 t)) (i : Int) = (rkS n G (t + k) (rkL n G rs0 t))[i] := by simp [nth, List.getD, h1]
    rw [← e2, ← e3, e1]
    cases e : nth (rkL n G rs0 t) (i : Int) with
    | some v => rfl
    | none => rw [st i hi e]; rfl
/-- behind n rounds nothing is left to give -/
theorem rk_end (hl : rs0.length = n) : ∀ c, c < n → nth (rkL n G rs0 n) (c : Int) = none → G (rkL n G rs0 n) c = false := by
  intro c hc e
  by_cases hs : ∃ t, t ≤ n ∧ rkL n G rs0 (t + 1) = rkL n G rs0 t
  · obtain ⟨t, ht, h⟩ := hs
    obtain ⟨k, hk⟩ : ∃ k, n = t + k := ⟨n - t, by omega⟩
    have h1 := rk_const hl h k
    rw [← hk] at h1
    rw [h1] at e ⊢
    exact rk_stay hl h c hc e
  · have main : ∀ t, t ≤ n + 1 → t ≤ cntF (rkL n G rs0 t) := by
      intro t
      induction t with
      | zero => intro _; exact Nat.zero_le _
      | succ t ih =>
        intro ht
        have h1 := ih (by omega)
        have kp : KP (rkL n G rs0 t) (rkL n G rs0 (t + 1)) := KP.of (by rw [rk_len hl, rk_len hl]) fun c v hc e => rk_step (by rw [rk_len hl] at hc; exact hc) e
        rcases kp.cnt with h | h
        · omega
        · exact (hs ⟨t, by omega, h.symm⟩).elim
    have h1 := main (n + 1) (Nat.le_refl _)
    have h2 : cntF (rkL n G rs0 (n + 1)) ≤ (rkL n G rs0 (n + 1)).length := List.countP_le_length
    rw [rk_len hl] at h2
    omega
end
/-- told by its places -/
theorem ext_nth {x y : List Am} (hl : x.length = y.length) (h : ∀ c : Nat, c < x.length → nth x (c : Int) = nth y (c : Int)) : x = y := by
  refine List.ext_getElem hl fun i h1 h2 => ?_
  have e1 : nth x (i : Int) = x[i] := by simp [nth, List.getD, h1]
  have e2 : nth y (i : Int) = y[i] := by simp [nth, List.getD, h2]
  rw [← e1, ← e2]; exact h i h1


theorem sc_ams : ∀ (g : List Am), (g.map am).all scalD = true
  | [] => rfl
  | a :: r => by
    rw [List.map_cons, List.all_cons, sc_ams r]
    cases a <;> rfl
theorem noSc_lst {α : Type} {f : α → D} : ∀ {xs : List α}, (∀ x ∈ xs, scalD (f x) = false ∧ noSc (f x) = true) → noSc (.lst (xs.map f)) = true := by
  intro xs h
  have h2 : ∀ ys : List α, (∀ x ∈ ys, scalD (f x) = false ∧ noSc (f x) = true) → noScs (ys.map f) = true := by
    intro ys
    induction ys with
    | nil => intro _; rfl
    | cons y ys ih =>
      intro h
      rw [List.map_cons, noScs, (h y (List.mem_cons_self ..)).2, ih fun x hx => h x (List.mem_cons_of_mem _ hx)]
      rfl
  unfold noSc
  rw [h2 xs h, Bool.and_true]
  cases xs with
  | nil => rfl
  | cons x xs =>
    rw [List.map_cons, List.all_cons, (h x (List.mem_cons_self ..)).1]
    simp
theorem noSc_arcs (as : List (Int × Int)) : noSc (.lst (as.map arc)) = true := noSc_lst fun p _ => ⟨rfl, rfl⟩
theorem noSc_ff (f : FF) : scalD (ff f) = false ∧ noSc (ff f) = true := by
  cases f with
  | amount a => cases a <;> exact ⟨rfl, rfl⟩
  | least as =>
    refine ⟨rfl, ?_⟩
    show noScs [.str "least", .lst (as.map arc)] = true
    rw [noScs, noScs, noSc_arcs]; rfl
  | greatest as =>
    refine ⟨rfl, ?_⟩
    show noScs [.str "greatest", .lst (as.map arc)] = true
    rw [noScs, noScs, noSc_arcs]; rfl
  | when j a k => exact ⟨rfl, rfl⟩
theorem noSc_flat (fs : List FF) : noSc (.lst (fs.map ff)) = true := noSc_lst fun f _ => noSc_ff f
theorem fr_ams {g : List Am} (h : 0 < g.length) {ds : List D} (hd : noScs ds = true) : freshD (.lst (g.map am)) ds = true := by
  show (!(g.map am).isEmpty && (g.map am).all scalD && noScs ds) = true
  rw [sc_ams, hd]
  cases g with
  | nil => cases h
  | cons => rfl
theorem fr_flat {g : List Am} (h : 0 < g.length) (fs : List FF) : freshD (.lst (g.map am)) [.lst (fs.map ff)] = true := fr_ams h (by rw [noScs, noSc_flat]; rfl)
theorem fr_flat2 {g : List Am} (h : 0 < g.length) (fs : List FF) (i : Int) : freshD (.lst (g.map am)) [.lst (fs.map ff), .int i] = true := fr_ams h (by rw [noScs, noSc_flat]; rfl)



theorem sp__law_draw {T : Tb} (hT : H__law_draw T) (k : Nat) (ns : List Int) (p r m : Int) (hp : 0 ≤ p) (hm : 0 < m ∧ m < 1073741824) : W (Ga T (k + 1) 68 [.lst [.lst (ns.map .int), .int p, .int r], .int m]) (fun R => ∃ v p' r', 0 ≤ p' ∧ (0 ≤ v ∧ v < m) ∧ R = (.int v, [.lst [.lst (ns.map .int), .int p', .int r']])) := by
  have z0 : (0 : Int) < 1000000000000000000 := by decide
  have l1 : ∀ a b c x : D, [a, b, c].set 1 x = [a, x, c] := fun _ _ _ _ => rfl
  have l2 : ∀ a b c x : D, [a, b, c].set 2 x = [a, b, x] := fun _ _ _ _ => rfl
  have fin : ∀ q : Int, 0 ≤ q % m ∧ q % m < m := fun q => ⟨Int.emod_nonneg _ (by omega), Int.emod_lt_of_pos _ (by omega)⟩
  have e__law_draw := h__law_draw hT
  have m__law_draw := m__law_draw
  refine Z.ga_W e__law_draw rfl ?_
  simp -implicitDefEqProofs only [t__law_draw, List.map_cons, List.map_nil, List.replicate, List.length_cons, List.length_nil, List.cons_append, List.nil_append, Nat.reduceAdd, Nat.reduceSub]
  walk_at "v"
  by_cases h1 : r < m
  · by_cases h2 : p < ns.length
    · by_cases h3 : nth ns p < 1000000000000000000
      · walk_at "v"
        exact ⟨_, _, _, by omega, fin _, rfl⟩
      · walk_at "v"
        exact ⟨_, _, _, by omega, fin _, rfl⟩
    · walk_at "v"
      exact ⟨_, _, _, by omega, fin _, rfl⟩
  · walk_at "v"
    exact ⟨_, _, _, hp, fin _, rfl⟩



theorem sp__law_amount_2 {T : Tb} (hT : H__law_amount_2 T) (k : Nat) (ns : List Int) (p r m : Int) (hp : 0 ≤ p) (hm : 0 < m ∧ m < 1073741824) : W (Ga T (k + 2) 69 [.lst [.lst (ns.map .int), .int p, .int r], .int m]) (fun R => ∃ a p' r', 0 ≤ p' ∧ ltA m a ∧ R = (am a, [.lst [.lst (ns.map .int), .int p', .int r']])) := by
  have e__law_amount_2 := h__law_amount_2 hT
  have m__law_amount_2 := m__law_amount_2
  have g__law_draw := H__law_amount_2__law_draw hT
  have e__law_draw := h__law_draw g__law_draw
  have m__law_draw := m__law_draw
  have s__law_draw := @sp__law_draw _ g__law_draw
  refine Z.ga_W e__law_amount_2 rfl ?_
  simp -implicitDefEqProofs only [t__law_amount_2, List.map_cons, List.map_nil, List.replicate, List.length_cons, List.length_nil, List.cons_append, List.nil_append, Nat.reduceAdd, Nat.reduceSub]
  walk_at "v"
  refine Z.useW (s__law_draw _ ns p r 12 hp (by decide)) fun R os hr => ?_
  obtain ⟨v, p1, r1, hp1, hv, e⟩ := hr
  cases e
  by_cases h0 : v = 0
  · walk_at "v"
    exact ⟨none, p1, r1, hp1, trivial, rfl⟩
  · walk_at "v"
    refine Z.useW (s__law_draw _ ns p1 r1 m hp1 hm) fun R os hr => ?_
    obtain ⟨w, p2, r2, hp2, hw, e⟩ := hr
    cases e
    walk_at "v"
    exact ⟨some w, p2, r2, hp2, hw, rfl⟩



theorem sp__law_arcs_2 {T : Tb} (hT : H__law_arcs_2 T) (k : Nat) (ns : List Int) (p r : Int) (n : Nat) (hp : 0 ≤ p) (hn : 0 < n ∧ n ≤ 100) : W (Ga T (k + 2) 70 [.lst [.lst (ns.map .int), .int p, .int r], .int (n : Int)]) (fun R => ∃ (as : List (Int × Int)) (p' r' : Int), 0 ≤ p' ∧ (0 < as.length ∧ as.length ≤ 6 ∧ ∀ q ∈ as, (0 ≤ q.1 ∧ q.1 < n) ∧ -6 < q.2 ∧ q.2 < 6) ∧ R = (.lst (as.map arc), [.lst [.lst (ns.map .int), .int p', .int r']])) := by
  have e : ∀ i, atI [D.int 1, .int 2, .int 2, .int 3, .int 2, .int 6] i = atI (([1, 2, 2, 3, 2, 6] : List Int).map .int) i := fun _ => rfl
  have e2 : ∀ i, atI [D.int 0, .int 1, .int (-1), .int 2, .int 0, .int (-2), .int 5, .int (-4), .int 3] i = atI (([0, 1, -1, 2, 0, -2, 5, -4, 3] : List Int).map .int) i := fun _ => rfl
  have hl : ∀ a ∈ ([1, 2, 2, 3, 2, 6] : List Int), 1 ≤ a ∧ a ≤ 6 := by decide
  have hl2 : ∀ a ∈ ([0, 1, -1, 2, 0, -2, 5, -4, 3] : List Int), -6 < a ∧ a < 6 := by decide
  have e__law_arcs_2 := h__law_arcs_2 hT
  have m__law_arcs_2 := m__law_arcs_2
  have g__law_draw := H__law_arcs_2__law_draw hT
  have e__law_draw := h__law_draw g__law_draw
  have m__law_draw := m__law_draw
  have s__law_draw := @sp__law_draw _ g__law_draw
  refine Z.ga_W e__law_arcs_2 rfl ?_
  simp -implicitDefEqProofs only [t__law_arcs_2, List.map_cons, List.map_nil, List.replicate, List.length_cons, List.length_nil, List.cons_append, List.nil_append, Nat.reduceAdd, Nat.reduceSub]
  walk_at "v"
  refine Z.useW (s__law_draw _ ns p r 6 hp (by decide)) fun R os hr => ?_
  obtain ⟨v, p1, r1, hp1, ⟨hv0, hv1⟩, ee⟩ := hr
  cases ee
  walk_at "v"
  have hz := hl _ (nth_mem hv0 (by simpa using hv1))
  generalize nth ([1, 2, 2, 3, 2, 6] : List Int) v = z at *
  walk_at "v"
  refine Z.forW (σ := (Int × Int) × List (Int × Int)) [none, some (.int (n : Int)), none, none] (fun s => [(0, .lst [.lst (ns.map .int), .int s.1.1, .int s.1.2]), (2, .lst (s.2.map arc))]) (fun i s => 0 ≤ s.1.1 ∧ s.2.length = i ∧ ∀ q ∈ s.2, (0 ≤ q.1 ∧ q.1 < n) ∧ -6 < q.2 ∧ q.2 < 6) ((p1, r1), []) rfl ⟨hp1, rfl, by simp⟩ (fun i x s K hx hi hK => ?_) (fun s hs => ?_)
  · obtain ⟨⟨q, t⟩, as⟩ := s
    obtain ⟨hq, ha, hb⟩ := hi
    dsimp only at hq ha hb
    have hi := (List.getElem?_eq_some_iff.mp hx).1
    rw [List.length_range] at hi
    clear hx
    walk_at "v"
    refine Z.useW (s__law_draw _ ns q t n hq (by omega)) fun R os hr => ?_
    obtain ⟨c, p2, r2, hp2, hc, ee⟩ := hr
    cases ee
    walk_at "v"
    refine Z.useW (s__law_draw _ ns p2 r2 9 hp2 (by decide)) fun R os hr => ?_
    obtain ⟨d, p3, r3, hp3, ⟨hd0, hd1⟩, ee⟩ := hr
    cases ee
    walk_at "v"
    have hd := hl2 _ (nth_mem hd0 (by simpa using hd1))
    have hK := hK ((p3, r3), as ++ [(c, nth [0, 1, -1, 2, 0, -2, 5, -4, 3] d)]) ⟨hp3, by simp [ha], fun p hp => by
      rcases List.mem_append.mp hp with h | h
      · exact hb p h
      · rw [List.mem_singleton.mp h]; exact ⟨hc, hd⟩⟩
    simp only [List.map_append, List.map_cons, List.map_nil, arc] at hK
    exact hK
  · obtain ⟨⟨q, t⟩, as⟩ := s
    obtain ⟨hq, ha, hb⟩ := hs
    rw [List.length_range] at ha
    dsimp only at hq ha hb
    walk_at "v"
    exact ⟨as, q, t, hq, ⟨by omega, by omega, hb⟩, rfl⟩



theorem sp__law_formula_3 {T : Tb} (hT : H__law_formula_3 T) (k : Nat) (ns : List Int) (p r : Int) (n : Nat) (hp : 0 ≤ p) (hn : 0 < n ∧ n ≤ 100) : W (Ga T (k + 3) 71 [.lst [.lst (ns.map .int), .int p, .int r], .int (n : Int)]) (fun R => ∃ (f : FF) (p' r' : Int), 0 ≤ p' ∧ (okF n f ∧ ltF 12 6 f) ∧ R = (ff f, [.lst [.lst (ns.map .int), .int p', .int r']])) := by
  have hk : ∀ v : Int, 0 ≤ v ∧ v < 9 → atI [D.str "amount", .str "amount", .str "least", .str "least", .str "least", .str "greatest", .str "greatest", .str "greatest", .str "when"] v = some (.str "amount") ∨ atI [D.str "amount", .str "amount", .str "least", .str "least", .str "least", .str "greatest", .str "greatest", .str "greatest", .str "when"] v = some (.str "least") ∨ atI [D.str "amount", .str "amount", .str "least", .str "least", .str "least", .str "greatest", .str "greatest", .str "greatest", .str "when"] v = some (.str "greatest") ∨ atI [D.str "amount", .str "amount", .str "least", .str "least", .str "least", .str "greatest", .str "greatest", .str "greatest", .str "when"] v = some (.str "when") := fun v hv => by
    rcases (by omega : v = 0 ∨ v = 1 ∨ v = 2 ∨ v = 3 ∨ v = 4 ∨ v = 5 ∨ v = 6 ∨ v = 7 ∨ v = 8) with rfl | rfl | rfl | rfl | rfl | rfl | rfl | rfl | rfl <;> first | exact .inl rfl | exact .inr (.inl rfl) | exact .inr (.inr (.inl rfl)) | exact .inr (.inr (.inr rfl))
  have e__law_formula_3 := h__law_formula_3 hT
  have m__law_formula_3 := m__law_formula_3
  have g__law_draw := H__law_formula_3__law_draw hT
  have e__law_draw := h__law_draw g__law_draw
  have m__law_draw := m__law_draw
  have s__law_draw := @sp__law_draw _ g__law_draw
  have g__law_amount_2 := H__law_formula_3__law_amount_2 hT
  have e__law_amount_2 := h__law_amount_2 g__law_amount_2
  have m__law_amount_2 := m__law_amount_2
  have s__law_amount_2 := @sp__law_amount_2 _ g__law_amount_2
  have g__law_arcs_2 := H__law_formula_3__law_arcs_2 hT
  have e__law_arcs_2 := h__law_arcs_2 g__law_arcs_2
  have m__law_arcs_2 := m__law_arcs_2
  have s__law_arcs_2 := @sp__law_arcs_2 _ g__law_arcs_2
  refine Z.ga_W e__law_formula_3 rfl ?_
  simp -implicitDefEqProofs only [t__law_formula_3, List.map_cons, List.map_nil, List.replicate, List.length_cons, List.length_nil, List.cons_append, List.nil_append, Nat.reduceAdd, Nat.reduceSub]
  walk_at "v"
  refine Z.useW (s__law_draw _ ns p r 9 hp (by decide)) fun R os hr => ?_
  obtain ⟨v, p1, r1, hp1, hv, e⟩ := hr
  cases e
  have hk := hk v hv
  generalize [D.str "amount", .str "amount", .str "least", .str "least", .str "least", .str "greatest", .str "greatest", .str "greatest", .str "when"] = L at *
  rcases hk with hk | hk | hk | hk
  · walk_at "v"
    refine Z.useW (s__law_amount_2 _ ns p1 r1 12 hp1 (by decide)) fun R os hr => ?_
    obtain ⟨a, p2, r2, hp2, ha, e⟩ := hr
    cases e
    walk_at "v"
    exact ⟨.amount a, p2, r2, hp2, ⟨ha.ok, ha⟩, rfl⟩
  · walk_at "v"
    refine Z.useW (s__law_arcs_2 _ ns p1 r1 n hp1 hn) fun R os hr => ?_
    obtain ⟨as, p2, r2, hp2, ⟨h1, h2, h3⟩, e⟩ := hr
    cases e
    walk_at "v"
    exact ⟨.least as, p2, r2, hp2, ⟨⟨h1, h2, fun q hq => (h3 q hq).1⟩, fun q hq => (h3 q hq).2⟩, rfl⟩
  · walk_at "v"
    refine Z.useW (s__law_arcs_2 _ ns p1 r1 n hp1 hn) fun R os hr => ?_
    obtain ⟨as, p2, r2, hp2, ⟨h1, h2, h3⟩, e⟩ := hr
    cases e
    walk_at "v"
    exact ⟨.greatest as, p2, r2, hp2, ⟨⟨h1, h2, fun q hq => (h3 q hq).1⟩, fun q hq => (h3 q hq).2⟩, rfl⟩
  · walk_at "v"
    refine Z.useW (s__law_draw _ ns p1 r1 n hp1 (by omega)) fun R os hr => ?_
    obtain ⟨j, p2, r2, hp2, hj, e⟩ := hr
    cases e
    walk_at "v"
    refine Z.useW (s__law_draw _ ns p2 r2 8 hp2 (by decide)) fun R os hr => ?_
    obtain ⟨a, p3, r3, hp3, ha, e⟩ := hr
    cases e
    walk_at "v"
    refine Z.useW (s__law_draw _ ns p3 r3 n hp3 (by omega)) fun R os hr => ?_
    obtain ⟨q, p4, r4, hp4, hq, e⟩ := hr
    cases e
    walk_at "v"
    exact ⟨.when j (1 + a) q, p4, r4, hp4, ⟨⟨hj, hq⟩, by show 0 < 1 + a ∧ 1 + a < 12; omega⟩, rfl⟩



theorem sp__law_flat_2 {T : Tb} (hT : H__law_flat_2 T) (k : Nat) (ns : List Int) (p r m : Int) (hp : 0 ≤ p) (hm : 0 < m ∧ m ≤ 90) : W (Ga T (k + 4) 72 [.lst [.lst (ns.map .int), .int p, .int r], .int m]) (fun R => ∃ (fs : List FF) (p' r' : Int), 0 ≤ p' ∧ (0 < fs.length ∧ (fs.length : Int) ≤ m + 6) ∧ (∀ f ∈ fs, okF fs.length f ∧ ltF 12 6 f) ∧ R = (.lst (fs.map ff), [.lst [.lst (ns.map .int), .int p', .int r']])) := by
  have e__law_flat_2 := h__law_flat_2 hT
  have m__law_flat_2 := m__law_flat_2
  have g__law_draw := H__law_flat_2__law_draw hT
  have e__law_draw := h__law_draw g__law_draw
  have m__law_draw := m__law_draw
  have s__law_draw := @sp__law_draw _ g__law_draw
  have g__law_formula_3 := H__law_flat_2__law_formula_3 hT
  have e__law_formula_3 := h__law_formula_3 g__law_formula_3
  have m__law_formula_3 := m__law_formula_3
  have s__law_formula_3 := @sp__law_formula_3 _ g__law_formula_3
  refine Z.ga_W e__law_flat_2 rfl ?_
  simp -implicitDefEqProofs only [t__law_flat_2, List.map_cons, List.map_nil, List.replicate, List.length_cons, List.length_nil, List.cons_append, List.nil_append, Nat.reduceAdd, Nat.reduceSub]
  walk_at "v"
  refine Z.useW (s__law_draw _ ns p r m hp (by omega)) fun R os hr => ?_
  obtain ⟨v, p1, r1, hp1, hv, e⟩ := hr
  cases e
  walk_at "v"
  refine Z.useW (s__law_draw _ ns p1 r1 16 hp1 (by decide)) fun R os hr => ?_
  obtain ⟨w, p2, r2, hp2, hw, e⟩ := hr
  cases e
  by_cases hw0 : w = 0
  · obtain ⟨q, hq⟩ : ∃ q : Nat, m + 6 = (q : Int) := ⟨(m + 6).toNat, by omega⟩
    have hqm : 0 < q ∧ q ≤ 100 ∧ (q : Int) ≤ m + 6 := by omega
    walk_at "v"
    refine Z.compW (σ := (Int × Int) × List FF) [none, some (.int m), some (.int (q : Int)), none] (fun s => [(0, .lst [.lst (ns.map .int), .int s.1.1, .int s.1.2])]) (fun i s ys => 0 ≤ s.1.1 ∧ s.2.length = i ∧ ys = s.2.map ff ∧ ∀ f ∈ s.2, okF q f ∧ ltF 12 6 f) ((p2, r2), []) rfl ⟨hp2, rfl, rfl, by simp⟩ (by simp [lim]; omega) (fun i s ys ⟨_, h1, h2, _⟩ => by rw [h2]; simp [h1]) (fun i x s ys K hx hi hK => ?_) (fun s ys hs => ?_)
    · obtain ⟨⟨y, z⟩, gs⟩ := s
      obtain ⟨hy, hg, hys, hb⟩ := hi
      dsimp only at hy hg hys hb
      clear hx
      walk_at "v"
      refine Z.useW (s__law_formula_3 _ ns y z q hy (by omega)) fun R os hr => ?_
      obtain ⟨f, p3, r3, hp3, hf, ee⟩ := hr
      cases ee
      subst hys
      have hK := hK ((p3, r3), gs ++ [f]) _ ⟨hp3, by simp [hg], rfl, fun g hgm => by
        rcases List.mem_append.mp hgm with h | h
        · exact hb g h
        · rw [List.mem_singleton.mp h]; exact hf⟩
      simp only [List.map_append, List.map_cons, List.map_nil] at hK
      clear hb
      walk_at "v"
      exact hK
    · obtain ⟨⟨y, z⟩, gs⟩ := s
      obtain ⟨hy, hg, hys, hb⟩ := hs
      dsimp only at hy hg hys hb
      rw [List.length_range] at hg
      subst hys
      walk_at "v"
      exact ⟨gs, y, z, hy, by omega, by rw [hg]; exact hb, rfl⟩
  · obtain ⟨q, hq⟩ : ∃ q : Nat, 1 + v = (q : Int) := ⟨(1 + v).toNat, by omega⟩
    have hqm : 0 < q ∧ q ≤ 100 ∧ (q : Int) ≤ m + 6 := by omega
    clear hv
    walk_at "v"
    refine Z.compW (σ := (Int × Int) × List FF) [none, some (.int m), some (.int (q : Int)), none] (fun s => [(0, .lst [.lst (ns.map .int), .int s.1.1, .int s.1.2])]) (fun i s ys => 0 ≤ s.1.1 ∧ s.2.length = i ∧ ys = s.2.map ff ∧ ∀ f ∈ s.2, okF q f ∧ ltF 12 6 f) ((p2, r2), []) rfl ⟨hp2, rfl, rfl, by simp⟩ (by simp [lim]; omega) (fun i s ys ⟨_, h1, h2, _⟩ => by rw [h2]; simp [h1]) (fun i x s ys K hx hi hK => ?_) (fun s ys hs => ?_)
    · obtain ⟨⟨y, z⟩, gs⟩ := s
      obtain ⟨hy, hg, hys, hb⟩ := hi
      dsimp only at hy hg hys hb
      clear hx
      walk_at "v"
      refine Z.useW (s__law_formula_3 _ ns y z q hy (by omega)) fun R os hr => ?_
      obtain ⟨f, p3, r3, hp3, hf, ee⟩ := hr
      cases ee
      subst hys
      have hK := hK ((p3, r3), gs ++ [f]) _ ⟨hp3, by simp [hg], rfl, fun g hgm => by
        rcases List.mem_append.mp hgm with h | h
        · exact hb g h
        · rw [List.mem_singleton.mp h]; exact hf⟩
      simp only [List.map_append, List.map_cons, List.map_nil] at hK
      clear hb
      walk_at "v"
      exact hK
    · obtain ⟨⟨y, z⟩, gs⟩ := s
      obtain ⟨hy, hg, hys, hb⟩ := hs
      dsimp only at hy hg hys hb
      rw [List.length_range] at hg
      subst hys
      walk_at "v"
      exact ⟨gs, y, z, hy, by omega, by rw [hg]; exact hb, rfl⟩



theorem sp__law_most {T : Tb} (hT : H__law_most T) (k : Nat) (a b : Am) : Ga T (k + 1) 73 [am a, am b] = some (.bl (atMost a b), []) := by
  cases a <;> cases b <;> simp only [am, atMost]
  all_goals
    have e__law_most := h__law_most hT
    have m__law_most := m__law_most
    refine Z.W_eq (Z.ga_W e__law_most rfl ?_)
    simp -implicitDefEqProofs only [t__law_most, List.map_cons, List.map_nil, List.replicate, List.length_cons, List.length_nil, List.cons_append, List.nil_append, Nat.reduceAdd, Nat.reduceSub]
    walk_at "v"



theorem sp__law_shift {T : Tb} (hT : H__law_shift T) (k : Nat) (a : Am) (c : Int) : Ga T (k + 1) 74 [am a, .int c] = some (am (sh a c), []) := by
  have emax : ∀ (u : Int) (ε : Ev) (κ : D → Ev → Option (D × List D)), Z.h1 .maxL (.lst [.int 0, .int u]) ε κ = κ (.int (max 0 u)) ε := fun u ε κ => by
    have : op1 .maxL (.lst [.int 0, .int u]) = some (.int (max 0 u)) := by
      show some (D.int (if u > 0 then u else 0)) = _
      congr 2
      split <;> omega
    unfold Z.h1
    rw [this]; rfl
  cases a <;> simp only [am, sh]
  all_goals
    have e__law_shift := h__law_shift hT
    have m__law_shift := m__law_shift
    refine Z.W_eq (Z.ga_W e__law_shift rfl ?_)
    simp -implicitDefEqProofs only [t__law_shift, List.map_cons, List.map_nil, List.replicate, List.length_cons, List.length_nil, List.cons_append, List.nil_append, Nat.reduceAdd, Nat.reduceSub]
    walk_at "v"



theorem sp__law_value_2 {T : Tb} (hT : H__law_value_2 T) (k : Nat) (x : List Am) (f : FF) (hf : okF x.length f) (hx : x.length ≤ 1000) : Ga T (k + 2) 75 [ff f, .lst (x.map am)] = some (am (fval x f), []) := by
  cases f with
  | amount a =>
    have e__law_value_2 := h__law_value_2 hT
    have m__law_value_2 := m__law_value_2
    have g__law_most := H__law_value_2__law_most hT
    have e__law_most := h__law_most g__law_most
    have m__law_most := m__law_most
    have s__law_most := @sp__law_most _ g__law_most
    have g__law_shift := H__law_value_2__law_shift hT
    have e__law_shift := h__law_shift g__law_shift
    have m__law_shift := m__law_shift
    have s__law_shift := @sp__law_shift _ g__law_shift
    refine Z.W_eq (Z.ga_W e__law_value_2 rfl ?_)
    simp -implicitDefEqProofs only [t__law_value_2, List.map_cons, List.map_nil, List.replicate, List.length_cons, List.length_nil, List.cons_append, List.nil_append, Nat.reduceAdd, Nat.reduceSub]
    walk_at "v"
    simp only [fval]
  | when j a q =>
    obtain ⟨hj, hq⟩ := hf
    have e : D.int a = am (some a) := rfl
    have e__law_value_2 := h__law_value_2 hT
    have m__law_value_2 := m__law_value_2
    have g__law_most := H__law_value_2__law_most hT
    have e__law_most := h__law_most g__law_most
    have m__law_most := m__law_most
    have s__law_most := @sp__law_most _ g__law_most
    have g__law_shift := H__law_value_2__law_shift hT
    have e__law_shift := h__law_shift g__law_shift
    have m__law_shift := m__law_shift
    have s__law_shift := @sp__law_shift _ g__law_shift
    refine Z.W_eq (Z.ga_W e__law_value_2 rfl ?_)
    simp -implicitDefEqProofs only [t__law_value_2, List.map_cons, List.map_nil, List.replicate, List.length_cons, List.length_nil, List.cons_append, List.nil_append, Nat.reduceAdd, Nat.reduceSub]
    walk_at "v"
    simp only [fval]
    cases h : atMost (some a) (nth x j) <;> walk_at "v"
    rfl
  | least arcs =>
    obtain ⟨h1, h2, h3⟩ := hf
    have e__law_value_2 := h__law_value_2 hT
    have m__law_value_2 := m__law_value_2
    have g__law_most := H__law_value_2__law_most hT
    have e__law_most := h__law_most g__law_most
    have m__law_most := m__law_most
    have s__law_most := @sp__law_most _ g__law_most
    have g__law_shift := H__law_value_2__law_shift hT
    have e__law_shift := h__law_shift g__law_shift
    have m__law_shift := m__law_shift
    have s__law_shift := @sp__law_shift _ g__law_shift
    refine Z.W_eq (Z.ga_W e__law_value_2 rfl ?_)
    simp -implicitDefEqProofs only [t__law_value_2, List.map_cons, List.map_nil, List.replicate, List.length_cons, List.length_nil, List.cons_append, List.nil_append, Nat.reduceAdd, Nat.reduceSub]
    walk_at "v"
    refine Z.compMap2 am (fun p : Int × Int => sh (nth x p.1) p.2) (by simp [lim]; omega) (fun p K kn hp hK => ?_) ?_
    · have := h3 p hp
      walk_at "v"
      exact hK
    · have hvl : (arcs.map fun p : Int × Int => sh (nth x p.1) p.2).length = arcs.length := List.length_map ..
      have hv : fval x (.least arcs) = leastOf (arcs.map fun p : Int × Int => sh (nth x p.1) p.2) := rfl
      rw [hv]
      generalize (arcs.map fun p : Int × Int => sh (nth x p.1) p.2) = vs at *
      clear hv
      walk_at "v"
      refine Z.forF [some (ff (.least arcs)), some (.lst (x.map am)), some (.lst (vs.map am)), none, none, none, none] (fun a => [(5, am a)]) lea (nth vs 0) (fun _ => True) rfl trivial (fun y s K hx _ hK => ?_) (fun _ => ?_)
      · have hK := hK trivial
        walk_at "v"
        unfold lea at hK
        cases hc : atMost y s <;> (simp only [hc] at hK; walk_at "v") <;> exact hK
      · walk_at "v"
        rfl
  | greatest arcs =>
    obtain ⟨h1, h2, h3⟩ := hf
    have e__law_value_2 := h__law_value_2 hT
    have m__law_value_2 := m__law_value_2
    have g__law_most := H__law_value_2__law_most hT
    have e__law_most := h__law_most g__law_most
    have m__law_most := m__law_most
    have s__law_most := @sp__law_most _ g__law_most
    have g__law_shift := H__law_value_2__law_shift hT
    have e__law_shift := h__law_shift g__law_shift
    have m__law_shift := m__law_shift
    have s__law_shift := @sp__law_shift _ g__law_shift
    refine Z.W_eq (Z.ga_W e__law_value_2 rfl ?_)
    simp -implicitDefEqProofs only [t__law_value_2, List.map_cons, List.map_nil, List.replicate, List.length_cons, List.length_nil, List.cons_append, List.nil_append, Nat.reduceAdd, Nat.reduceSub]
    walk_at "v"
    refine Z.compMap2 am (fun p : Int × Int => sh (nth x p.1) p.2) (by simp [lim]; omega) (fun p K kn hp hK => ?_) ?_
    · have := h3 p hp
      walk_at "v"
      exact hK
    · have hvl : (arcs.map fun p : Int × Int => sh (nth x p.1) p.2).length = arcs.length := List.length_map ..
      have hv : fval x (.greatest arcs) = greatestOf (arcs.map fun p : Int × Int => sh (nth x p.1) p.2) := rfl
      rw [hv]
      generalize (arcs.map fun p : Int × Int => sh (nth x p.1) p.2) = vs at *
      clear hv
      walk_at "v"
      refine Z.forF [some (ff (.greatest arcs)), some (.lst (x.map am)), some (.lst (vs.map am)), none, none, none, none] (fun a => [(5, am a)]) gre (nth vs 0) (fun _ => True) rfl trivial (fun y s K hx _ hK => ?_) (fun _ => ?_)
      · have hK := hK trivial
        walk_at "v"
        unfold gre at hK
        cases hc : atMost s y <;> (simp only [hc] at hK; walk_at "v") <;> exact hK
      · walk_at "v"
        rfl



theorem sp__law_round {T : Tb} (hT : H__law_round T) (k : Nat) (x : List Am) (fs : List FF) (hf : ∀ f ∈ fs, okF x.length f) (hx : x.length ≤ 1000) (hl : fs.length ≤ 1000) : Ga T (k + 3) 76 [.lst (fs.map ff), .lst (x.map am)] = some (.lst ((fvals fs x).map am), []) := by
  have e__law_round := h__law_round hT
  have m__law_round := m__law_round
  have g__law_value_2 := H__law_round__law_value_2 hT
  have e__law_value_2 := h__law_value_2 g__law_value_2
  have m__law_value_2 := m__law_value_2
  have s__law_value_2 := @sp__law_value_2 _ g__law_value_2
  refine Z.W_eq (Z.ga_W e__law_round rfl ?_)
  simp -implicitDefEqProofs only [t__law_round, List.map_cons, List.map_nil, List.replicate, List.length_cons, List.length_nil, List.cons_append, List.nil_append, Nat.reduceAdd, Nat.reduceSub]
  walk_at "v"
  refine Z.compMap2 am (fval x) (by simp [lim]; omega) (fun p K kn hp hK => ?_) ?_
  · have := s__law_value_2 k x p (hf p hp) hx
    walk_at "v"
    exact hK
  · walk_at "v"
    rfl



theorem sp__law_all_most {T : Tb} (hT : H__law_all_most T) (k : Nat) (x y : List Am) (hl : x.length ≤ 1000) (he : y.length = x.length) (h : leL x.length x y) : Ga T (k + 2) 79 [.lst (x.map am), .lst (y.map am)] = some (.bl true, []) := by
  have e__law_all_most := h__law_all_most hT
  have m__law_all_most := m__law_all_most
  have g__law_most := H__law_all_most__law_most hT
  have e__law_most := h__law_most g__law_most
  have m__law_most := m__law_most
  have s__law_most := @sp__law_most _ g__law_most
  refine Z.W_eq (Z.ga_W e__law_all_most rfl ?_)
  simp -implicitDefEqProofs only [t__law_all_most, List.map_cons, List.map_nil, List.replicate, List.length_cons, List.length_nil, List.cons_append, List.nil_append, Nat.reduceAdd, Nat.reduceSub]
  walk_at "v"
  refine Z.compMap2 D.bl (fun c : Nat => true) (by simp [lim]; omega) (fun c K kn hc hK => ?_) ?_
  · have hc := List.mem_range.mp hc
    have h1 := h (c : Int) (by omega) (by omega)
    walk_at "v"
    exact hK
  · walk_at "v"
    simp



theorem sp__law_are_amounts_3 {T : Tb} (hT : H__law_are_amounts_3 T) (k : Nat) (x : List Am) (n : Nat) (hn : x.length = n) (hx : x.length ≤ 1000) (h : ∀ a ∈ x, okAm a) : Ga T (k + 1) 231 [.lst (x.map am), .int (n : Int)] = some (.bl true, []) := by
  have e__law_are_amounts_3 := h__law_are_amounts_3 hT
  have m__law_are_amounts_3 := m__law_are_amounts_3
  refine Z.W_eq (Z.ga_W e__law_are_amounts_3 rfl ?_)
  simp -implicitDefEqProofs only [t__law_are_amounts_3, List.map_cons, List.map_nil, List.replicate, List.length_cons, List.length_nil, List.cons_append, List.nil_append, Nat.reduceAdd, Nat.reduceSub]
  walk_at "v"
  refine Z.forAll (fun _ => true) (fun a K ha hK => ?_) (fun _ => ?_)
  · have hK := hK rfl
    have := h a ha
    cases a with
    | none => simp only [am]; walk_at "v"; exact hK
    | some v =>
      have : 0 ≤ v := this
      simp only [am]
      walk_at "v"
      exact hK
  · walk_at "v"



def itF (F : List Am → List Am) (x : List Am) : Nat → List Am
  | 0 => x
  | t + 1 => F (itF F x t)
theorem itF_len {fs : List FF} {x : List Am} (hx : x.length = fs.length) : ∀ t, (itF (fvals fs) x t).length = fs.length
  | 0 => hx
  | t + 1 => by simp [itF, fvals]
theorem itF_ok {fs : List FF} {x : List Am} (hf : ∀ f ∈ fs, okF fs.length f) (hx : x.length = fs.length) (ho : ∀ a ∈ x, okAm a) : ∀ t, ∀ a ∈ itF (fvals fs) x t, okAm a
  | 0 => ho
  | t + 1 => fun a ha => by
    obtain ⟨f, h, rfl⟩ := List.mem_map.mp ha
    exact fval_ok (itF_len hx t) (itF_ok hf hx ho t) (hf f h)
theorem zer_len (n : Nat) : (List.replicate n (some 0 : Am)).length = n := List.length_replicate ..
theorem zer_ok (n : Nat) : ∀ a ∈ List.replicate n (some 0 : Am), okAm a := fun a ha => by rw [(List.mem_replicate.mp ha).2]; exact Int.le_refl _
theorem non_len (n : Nat) : (List.replicate n (none : Am)).length = n := List.length_replicate ..
theorem non_ok (n : Nat) : ∀ a ∈ List.replicate n (none : Am), okAm a := fun a ha => by rw [(List.mem_replicate.mp ha).2]; trivial
theorem fvals_mono {fs : List FF} (hf : ∀ f ∈ fs, okF fs.length f) {x y : List Am} (hx : x.length = fs.length) (hy : y.length = fs.length) (hyo : ∀ a ∈ y, okAm a) (h : leL fs.length x y) : leL fs.length (fvals fs x) (fvals fs y) := fun i h0 h1 => by
  unfold fvals
  rw [nth_map h0 h1, nth_map h0 h1]
  exact fval_mono hy hyo h (hf _ (nth_mem h0 h1))
theorem it_up {fs : List FF} (hf : ∀ f ∈ fs, okF fs.length f) : ∀ t, leL fs.length (itF (fvals fs) (List.replicate fs.length (some 0)) t) (itF (fvals fs) (List.replicate fs.length (some 0)) (t + 1))
  | 0 => zero_le (itF_len (zer_len _) 1) (itF_ok hf (zer_len _) (zer_ok _) 1)
  | t + 1 => fvals_mono hf (itF_len (zer_len _) t) (itF_len (zer_len _) (t + 1)) (itF_ok hf (zer_len _) (zer_ok _) (t + 1)) (it_up hf t)
theorem it_dn {fs : List FF} (hf : ∀ f ∈ fs, okF fs.length f) : ∀ t, leL fs.length (itF (fvals fs) (List.replicate fs.length none) (t + 1)) (itF (fvals fs) (List.replicate fs.length none) t)
  | 0 => le_none
  | t + 1 => fvals_mono hf (itF_len (non_len _) (t + 1)) (itF_len (non_len _) t) (itF_ok hf (non_len _) (non_ok _) t) (it_dn hf t)
theorem mul_lst {A : Type} (a : Am) (n : Nat) (hn : n ≤ 1000) (ε : Ev) (κ : D → Ev → Option A) : Z.h2 .mul (.lst [VS.am a]) (.int (n : Int)) ε κ = κ (.lst ((List.replicate n a).map VS.am)) ε := by
  have e : (List.replicate n [VS.am a]).flatten = (List.replicate n a).map VS.am := by
    induction n with
    | zero => rfl
    | succ n ih => rw [List.replicate_succ, List.flatten_cons, ih (by omega), List.replicate_succ, List.map_cons]; rfl
  have h : decide (0 ≤ (n : Int) ∧ (n : Int) ≤ lim ∧ [VS.am a].length * (n : Int).toNat ≤ lim) = true := decide_eq_true ⟨by omega, by unfold lim; omega, by unfold lim; simp; omega⟩
  have h3 : op2 .mul (.lst [VS.am a]) (.int (n : Int)) = some (.lst ((List.replicate n a).map VS.am)) := by
    show (if decide (0 ≤ (n : Int) ∧ (n : Int) ≤ lim ∧ [VS.am a].length * (n : Int).toNat ≤ lim) = true then some (D.lst (List.replicate (n : Int).toNat [VS.am a]).flatten) else none) = _
    rw [if_pos h, Int.toNat_natCast, e]
  unfold Z.h2
  rw [h3]; rfl

/-- the first place -/
def ff1 (P : Nat → Bool) : Nat → Nat → Am
  | 0, _ => none
  | n + 1, i => if P i = true then some (i : Int) else ff1 P n (i + 1)
theorem ff1_at {P : Nat → Bool} : ∀ (n i j : Nat), j < n → P (i + j) = true → (∀ l, l < j → P (i + l) = false) → ff1 P n i = some ((i + j : Nat) : Int)
  | 0, _, _, h, _, _ => by omega
  | n + 1, i, 0, _, hp, _ => by
    unfold ff1
    rw [if_pos (by simpa using hp)]; rfl
  | n + 1, i, j + 1, h, hp, hb => by
    unfold ff1
    have h0 := hb 0 (by omega)
    rw [Nat.add_zero] at h0
    rw [if_neg (by rw [h0]; decide), ff1_at n (i + 1) j (by omega) (by rw [show i + 1 + j = i + (j + 1) by omega]; exact hp) (fun l hl => by rw [show i + 1 + l = i + (l + 1) by omega]; exact hb (l + 1) (by omega))]
    congr 2; omega
theorem ff1_no {P : Nat → Bool} : ∀ (n i : Nat), (∀ l, l < n → P (i + l) = false) → ff1 P n i = none
  | 0, _, _ => rfl
  | n + 1, i, h => by
    unfold ff1
    have h0 := h 0 (by omega)
    rw [Nat.add_zero] at h0
    rw [if_neg (by rw [h0]; decide), ff1_no n (i + 1) fun l hl => by rw [show i + 1 + l = i + (l + 1) by omega]; exact h (l + 1) (by omega)]
theorem ff1_congr {P Q : Nat → Bool} : ∀ (n i : Nat), (∀ l, l < n → P (i + l) = Q (i + l)) → ff1 P n i = ff1 Q n i
  | 0, _, _ => rfl
  | n + 1, i, h => by
    unfold ff1
    have h0 := h 0 (by omega)
    rw [Nat.add_zero] at h0
    rw [h0, ff1_congr (P := P) (Q := Q) n (i + 1) fun l hl => by
      have := h (l + 1) (by omega)
      rw [show i + (l + 1) = i + 1 + l by omega] at this
      exact this]
/-- after how many rounds one more changes nothing -/
def setl (F : List Am → List Am) (x : List Am) (t : Nat) : Am := ff1 (fun p => decide (itF F x p = itF F x (p + 1))) (t + 1) 0



theorem sp_rounds_from {T : Tb} (hT : H_rounds_from T) (k : Nat) (fs : List FF) (x : List Am) (t : Nat) (hf : ∀ f ∈ fs, okF fs.length f) (hl : fs.length ≤ 1000) (hx : x.length = fs.length) (ht : t ≤ 1000) : Ga T (k + 5) 229 [.lst (fs.map ff), .lst (x.map am), .int (t : Int)] = some (.lst ((List.range t).map (fun i => D.lst ((itF (fvals fs) x i).map am)) ++ [D.lst ((itF (fvals fs) x t).map am)]), []) := by
  have e_rounds_from := h_rounds_from hT
  have m_rounds_from := m_rounds_from
  have g_flat_values := H_rounds_from_flat_values hT
  have e_flat_values := h_flat_values g_flat_values
  have m_flat_values := m_flat_values
  have s_flat_values := @sp_flat_values _ g_flat_values
  refine Z.W_eq (Z.ga_W e_rounds_from rfl ?_)
  simp -implicitDefEqProofs only [t_rounds_from, List.map_cons, List.map_nil, List.replicate, List.length_cons, List.length_nil, List.cons_append, List.nil_append, Nat.reduceAdd, Nat.reduceSub]
  walk_at "v"
  refine Z.forW (σ := Nat) [some (.lst (fs.map ff)), some (.lst (x.map am)), some (.int (t : Int)), none, none] (fun j => [(3, .lst ((List.range j).map (fun i => D.lst ((itF (fvals fs) x i).map am)) ++ [D.lst ((itF (fvals fs) x j).map am)]))]) (fun i j => j = i ∧ j ≤ 1000) 0 rfl ⟨rfl, by decide⟩ (fun i y j K hj hi hK => ?_) (fun j hj => ?_)
  · obtain ⟨rfl, _⟩ := hi
    have hj4 := (List.getElem?_eq_some_iff.mp hj).1
    rw [List.length_range] at hj4
    have hK := hK (j + 1) ⟨rfl, by omega⟩
    rw [List.range_succ, List.map_append] at hK
    have hyl := itF_len hx j
    have s := fun k => s_flat_values k (itF (fvals fs) x j) fs (fun f h => by rw [hyl]; exact hf f h) (by omega) (by omega)
    have e1 : itF (fvals fs) x (j + 1) = fvals fs (itF (fvals fs) x j) := rfl
    rw [e1] at hK
    have hLl : ((List.range j).map (fun i => D.lst ((itF (fvals fs) x i).map am))).length = j := by simp
    clear e1 s_flat_values hj
    simp only [List.map_cons, List.map_nil] at hK
    generalize (List.range j).map (fun i => D.lst ((itF (fvals fs) x i).map am)) = L at *
    walk_at "v"
    exact hK
  · obtain ⟨rfl, _⟩ := hj
    rw [List.length_range]
    walk_at "v"



theorem sp_from_above {T : Tb} (hT : H_from_above T) (k : Nat) (fs : List FF) (t : Nat) (hf : ∀ f ∈ fs, okF fs.length f) (hl : fs.length ≤ 1000) (ht : t ≤ 1000) : Ga T (k + 6) 232 [.lst (fs.map ff), .int (t : Int)] = some (.lst ((itF (fvals fs) (List.replicate fs.length none) t).map am), []) := by
  have em : ∀ (ε : Ev) (κ : D → Ev → Option (D × List D)), Z.h2 .mul (.lst [.non]) (.int (fs.length : Int)) ε κ = κ (.lst ((List.replicate fs.length none).map am)) ε := mul_lst none fs.length hl
  have s := fun k (g : H_rounds_from T) => sp_rounds_from g k fs (List.replicate fs.length none) t hf hl (non_len _) ht
  have g := H_from_above_rounds_from hT
  have s := fun k => s k g
  generalize List.replicate fs.length (none : Am) = z at *
  have e_from_above := h_from_above hT
  have m_from_above := m_from_above
  have g_rounds_from := H_from_above_rounds_from hT
  have e_rounds_from := h_rounds_from g_rounds_from
  have m_rounds_from := m_rounds_from
  refine Z.W_eq (Z.ga_W e_from_above rfl ?_)
  simp -implicitDefEqProofs only [t_from_above, List.map_cons, List.map_nil, List.replicate, List.length_cons, List.length_nil, List.cons_append, List.nil_append, Nat.reduceAdd, Nat.reduceSub]
  walk_at "v"



theorem sp_from_above_nw {T : Tb} (hT : H_from_above_nw T) (k : Nat) (fs : List FF) (t : Nat) (hf : ∀ f ∈ fs, okF fs.length f) (hl : 0 < fs.length ∧ fs.length ≤ 1000) (ht : t ≤ 1000) : Ga T (k + 6) 325 [.lst (fs.map ff), .int (t : Int)] = some (.lst ((itF (fvals fs) (List.replicate fs.length none) t).map am), []) := by
  have e_from_above_nw := h_from_above_nw hT
  have m_from_above_nw := m_from_above_nw
  have g_from_above := H_from_above_nw_from_above hT
  have e_from_above := h_from_above g_from_above
  have m_from_above := m_from_above
  have s_from_above := @sp_from_above _ g_from_above
  exact ga_nw e_from_above e_from_above_nw ⟨rfl, rfl, rfl⟩ rfl rfl rfl (s_from_above k fs t hf hl.2 ht) (fr_flat2 (by rw [itF_len (non_len _)]; exact hl.1) fs t)



theorem sp_settled_at {T : Tb} (hT : H_settled_at T) (k : Nat) (xs : List (List Am)) (m : Nat) (hm : xs.length = m + 1) (hl : m ≤ 1000) (hx : ∀ x ∈ xs, x.length ≤ 1000) : Ga T (k + 1) 233 [.lst (xs.map fun x : List Am => D.lst (x.map am))] = some (am (ff1 (fun p => decide (nth xs (p : Int) = nth xs ((p : Int) + 1))) m 0), []) := by
  have em : (xs.length : Int) - 1 = (m : Int) := by omega
  have e_settled_at := h_settled_at hT
  have m_settled_at := m_settled_at
  refine Z.W_eq (Z.ga_W e_settled_at rfl ?_)
  simp -implicitDefEqProofs only [t_settled_at, List.map_cons, List.map_nil, List.replicate, List.length_cons, List.length_nil, List.cons_append, List.nil_append, Nat.reduceAdd, Nat.reduceSub]
  walk_at "v"
  refine Z.forW (σ := Unit) [some (.lst (xs.map fun x : List Am => D.lst (x.map am))), none] (fun _ => []) (fun i _ => ∀ l, l < i → decide (nth xs (l : Int) = nth xs ((l : Int) + 1)) = false) () rfl (fun l h => by omega) (fun i j _ K hj hi hK => ?_) (fun _ hs => ?_)
  · have hj4 := (List.getElem?_eq_some_iff.mp hj).1
    have hj5 : j = i := by simpa using ((List.getElem?_eq_some_iff.mp hj).2).symm
    rw [List.length_range] at hj4
    subst hj5
    have b1 := hx _ (nth_mem (xs := xs) (i := (j : Int)) (by omega) (by omega))
    have b2 := hx _ (nth_mem (xs := xs) (i := (j : Int) + 1) (by omega) (by omega))
    by_cases he : nth xs (j : Int) = nth xs ((j : Int) + 1)
    · have hf := ff1_at (P := fun p => decide (nth xs (p : Int) = nth xs ((p : Int) + 1))) m 0 j (by omega) (by simpa using he) (fun l hl => by simpa using hi l hl)
      rw [Nat.zero_add] at hf
      rw [hf]
      clear hi hK hf hj
      walk_at "v"
      rfl
    · have hK := hK () (fun l hl => by
        rcases (by omega : l < j ∨ l = j) with h | h
        · exact hi l h
        · subst h; exact decide_eq_false he)
      clear hi hj
      walk_at "v"
      exact hK
  · rw [List.length_range] at hs
    have hf := ff1_no (P := fun p => decide (nth xs (p : Int) = nth xs ((p : Int) + 1))) m 0 (fun l hl => by simpa using hs l (by omega))
    rw [hf]
    clear hs hf
    walk_at "v"
    rfl



theorem sp_settled_from_below {T : Tb} (hT : H_settled_from_below T) (k : Nat) (fs : List FF) (t : Nat) (hf : ∀ f ∈ fs, okF fs.length f) (hl : fs.length ≤ 1000) (ht : t ≤ 900) : Ga T (k + 6) 234 [.lst (fs.map ff), .int (t : Int)] = some (am (setl (fvals fs) (List.replicate fs.length (some 0)) t), []) := by
  have em : ∀ (ε : Ev) (κ : D → Ev → Option (D × List D)), Z.h2 .mul (.lst [.int 0]) (.int (fs.length : Int)) ε κ = κ (.lst ((List.replicate fs.length (some 0)).map am)) ε := mul_lst (some 0) fs.length hl
  have s := fun k => sp_rounds_from (H_settled_from_below_rounds_from hT) k fs (List.replicate fs.length (some 0)) (t + 1) hf hl (zer_len _) (by omega)
  have hIl := fun j => itF_len (zer_len fs.length) j
  generalize List.replicate fs.length ((some 0) : Am) = z at *
  have hlist : (List.range (t + 1)).map (fun i => D.lst ((itF (fvals fs) z i).map am)) ++ [D.lst ((itF (fvals fs) z (t + 1)).map am)] = ((List.range (t + 2)).map (itF (fvals fs) z)).map fun x : List Am => D.lst (x.map am) := by
    rw [List.range_succ (n := t + 1)]
    simp
  rw [hlist] at s
  have hxl : ((List.range (t + 2)).map (itF (fvals fs) z)).length = (t + 1) + 1 := by simp
  have s2 := fun k => sp_settled_at (H_settled_from_below_settled_at hT) k _ (t + 1) hxl (by omega) (fun x hx => by
    obtain ⟨i, _, rfl⟩ := List.mem_map.mp hx
    rw [hIl]; exact hl)
  have hff : ff1 (fun p => decide (nth ((List.range (t + 2)).map (itF (fvals fs) z)) (p : Int) = nth ((List.range (t + 2)).map (itF (fvals fs) z)) ((p : Int) + 1))) (t + 1) 0 = setl (fvals fs) z t := by
    refine ff1_congr _ _ fun l hl => ?_
    rw [Nat.zero_add]
    have e1 : nth ((List.range (t + 2)).map (itF (fvals fs) z)) (l : Int) = itF (fvals fs) z l := nth_range (by omega)
    have e2 : nth ((List.range (t + 2)).map (itF (fvals fs) z)) ((l : Int) + 1) = itF (fvals fs) z (l + 1) := by
      rw [show (l : Int) + 1 = ((l + 1 : Nat) : Int) by omega]; exact nth_range (by omega)
    rw [e1, e2]
  rw [hff] at s2
  have e3 : (t : Int) + 1 = ((t + 1 : Nat) : Int) := by omega
  generalize (List.range (t + 2)).map (itF (fvals fs) z) = xs at *
  generalize setl (fvals fs) z t = r at *
  clear hff hlist hIl hxl
  have e_settled_from_below := h_settled_from_below hT
  have m_settled_from_below := m_settled_from_below
  have g_settled_at := H_settled_from_below_settled_at hT
  have e_settled_at := h_settled_at g_settled_at
  have m_settled_at := m_settled_at
  have g_rounds_from := H_settled_from_below_rounds_from hT
  have e_rounds_from := h_rounds_from g_rounds_from
  have m_rounds_from := m_rounds_from
  refine Z.W_eq (Z.ga_W e_settled_from_below rfl ?_)
  simp -implicitDefEqProofs only [t_settled_from_below, List.map_cons, List.map_nil, List.replicate, List.length_cons, List.length_nil, List.cons_append, List.nil_append, Nat.reduceAdd, Nat.reduceSub]
  walk_at "v"



theorem sp_settled_from_above {T : Tb} (hT : H_settled_from_above T) (k : Nat) (fs : List FF) (t : Nat) (hf : ∀ f ∈ fs, okF fs.length f) (hl : fs.length ≤ 1000) (ht : t ≤ 900) : Ga T (k + 6) 235 [.lst (fs.map ff), .int (t : Int)] = some (am (setl (fvals fs) (List.replicate fs.length none) t), []) := by
  have em : ∀ (ε : Ev) (κ : D → Ev → Option (D × List D)), Z.h2 .mul (.lst [.non]) (.int (fs.length : Int)) ε κ = κ (.lst ((List.replicate fs.length none).map am)) ε := mul_lst none fs.length hl
  have s := fun k => sp_rounds_from (H_settled_from_above_rounds_from hT) k fs (List.replicate fs.length none) (t + 1) hf hl (non_len _) (by omega)
  have hIl := fun j => itF_len (non_len fs.length) j
  generalize List.replicate fs.length (none : Am) = z at *
  have hlist : (List.range (t + 1)).map (fun i => D.lst ((itF (fvals fs) z i).map am)) ++ [D.lst ((itF (fvals fs) z (t + 1)).map am)] = ((List.range (t + 2)).map (itF (fvals fs) z)).map fun x : List Am => D.lst (x.map am) := by
    rw [List.range_succ (n := t + 1)]
    simp
  rw [hlist] at s
  have hxl : ((List.range (t + 2)).map (itF (fvals fs) z)).length = (t + 1) + 1 := by simp
  have s2 := fun k => sp_settled_at (H_settled_from_above_settled_at hT) k _ (t + 1) hxl (by omega) (fun x hx => by
    obtain ⟨i, _, rfl⟩ := List.mem_map.mp hx
    rw [hIl]; exact hl)
  have hff : ff1 (fun p => decide (nth ((List.range (t + 2)).map (itF (fvals fs) z)) (p : Int) = nth ((List.range (t + 2)).map (itF (fvals fs) z)) ((p : Int) + 1))) (t + 1) 0 = setl (fvals fs) z t := by
    refine ff1_congr _ _ fun l hl => ?_
    rw [Nat.zero_add]
    have e1 : nth ((List.range (t + 2)).map (itF (fvals fs) z)) (l : Int) = itF (fvals fs) z l := nth_range (by omega)
    have e2 : nth ((List.range (t + 2)).map (itF (fvals fs) z)) ((l : Int) + 1) = itF (fvals fs) z (l + 1) := by
      rw [show (l : Int) + 1 = ((l + 1 : Nat) : Int) by omega]; exact nth_range (by omega)
    rw [e1, e2]
  rw [hff] at s2
  have e3 : (t : Int) + 1 = ((t + 1 : Nat) : Int) := by omega
  generalize (List.range (t + 2)).map (itF (fvals fs) z) = xs at *
  generalize setl (fvals fs) z t = r at *
  clear hff hlist hIl hxl
  have e_settled_from_above := h_settled_from_above hT
  have m_settled_from_above := m_settled_from_above
  have g_settled_at := H_settled_from_above_settled_at hT
  have e_settled_at := h_settled_at g_settled_at
  have m_settled_at := m_settled_at
  have g_rounds_from := H_settled_from_above_rounds_from hT
  have e_rounds_from := h_rounds_from g_rounds_from
  have m_rounds_from := m_rounds_from
  refine Z.W_eq (Z.ga_W e_settled_from_above rfl ?_)
  simp -implicitDefEqProofs only [t_settled_from_above, List.map_cons, List.map_nil, List.replicate, List.length_cons, List.length_nil, List.cons_append, List.nil_append, Nat.reduceAdd, Nat.reduceSub]
  walk_at "v"



theorem sp__law_settled_4 {T : Tb} (hT : H__law_settled_4 T) (k : Nat) (fs : List FF) (x : List Am) (t : Nat) (hf : ∀ f ∈ fs, okF fs.length f) (hl : fs.length ≤ 1000) (hx : x.length = fs.length) (ht : t ≤ 900) : Ga T (k + 4) 330 [.lst (fs.map ff), .lst (x.map am), .int (t : Int)] = some (am (setl (fvals fs) x t), []) := by
  have e__law_settled_4 := h__law_settled_4 hT
  have m__law_settled_4 := m__law_settled_4
  have g__law_round := H__law_settled_4__law_round hT
  have e__law_round := h__law_round g__law_round
  have m__law_round := m__law_round
  have s__law_round := @sp__law_round _ g__law_round
  refine Z.W_eq (Z.ga_W e__law_settled_4 rfl ?_)
  simp -implicitDefEqProofs only [t__law_settled_4, List.map_cons, List.map_nil, List.replicate, List.length_cons, List.length_nil, List.cons_append, List.nil_append, Nat.reduceAdd, Nat.reduceSub]
  walk_at "v"
  refine Z.forW (σ := Nat) [some (.lst (fs.map ff)), none, some (.int (t : Int)), none, none] (fun j => [(1, .lst ((itF (fvals fs) x j).map am))]) (fun i j => j = i ∧ ∀ l, l < i → decide (itF (fvals fs) x l = itF (fvals fs) x (l + 1)) = false) 0 rfl ⟨rfl, fun l h => by omega⟩ (fun i y j K hj hi hK => ?_) (fun j hs => ?_)
  · obtain ⟨rfl, hi⟩ := hi
    have hj4 := (List.getElem?_eq_some_iff.mp hj).1
    have hj5 : y = j := by simpa using ((List.getElem?_eq_some_iff.mp hj).2).symm
    rw [List.length_range] at hj4
    subst hj5
    have l0 := itF_len hx y
    have s := fun k => s__law_round k (itF (fvals fs) x y) fs (fun f h => by rw [l0]; exact hf f h) (by omega) (by omega)
    have e1 : itF (fvals fs) x (y + 1) = fvals fs (itF (fvals fs) x y) := rfl
    by_cases he : itF (fvals fs) x y = itF (fvals fs) x (y + 1)
    · have hf := ff1_at (P := fun p => decide (itF (fvals fs) x p = itF (fvals fs) x (p + 1))) (t + 1) 0 y (by omega) (by simpa using he) (fun l hl => by simpa using hi l hl)
      rw [Nat.zero_add] at hf
      have hs : setl (fvals fs) x t = some (y : Int) := hf
      rw [hs]
      rw [e1] at he
      clear hi hK hf hj e1 s__law_round hs
      generalize itF (fvals fs) x y = z at *
      rw [← he] at s
      clear he
      walk_at "v"
      rfl
    · have hK := hK (y + 1) ⟨rfl, fun l hl => by
        rcases (by omega : l < y ∨ l = y) with h | h
        · exact hi l h
        · subst h; exact decide_eq_false he⟩
      rw [e1] at he hK
      have l1 : (fvals fs (itF (fvals fs) x y)).length ≤ 1000 := by simp [fvals]; exact hl
      clear hi hj e1 s__law_round
      generalize itF (fvals fs) x y = z at *
      have he' : ¬ fvals fs z = z := fun q => he q.symm
      clear he
      walk_at "v"
      exact hK
  · obtain ⟨rfl, hs⟩ := hs
    rw [List.length_range] at hs
    have hf := ff1_no (P := fun p => decide (itF (fvals fs) x p = itF (fvals fs) x (p + 1))) (t + 1) 0 (fun l hl => by simpa using hs l (by omega))
    have hf : setl (fvals fs) x t = none := hf
    rw [hf]
    clear hs hf
    walk_at "v"
    rfl



theorem sp_k17_law_2 {T : Tb} (hT : H_k17_law_2 T) (ns : List Int) (hs : ns.length ≤ 63) : Ga T 20 331 [.scr ns] = some (.bl true, []) := by
  have e_k17_law_2 := h_k17_law_2 hT
  have m_k17_law_2 := m_k17_law_2
  have g__law_flat_2 := H_k17_law_2__law_flat_2 hT
  have e__law_flat_2 := h__law_flat_2 g__law_flat_2
  have m__law_flat_2 := m__law_flat_2
  have s__law_flat_2 := @sp__law_flat_2 _ g__law_flat_2
  have g__law_draw := H_k17_law_2__law_draw hT
  have e__law_draw := h__law_draw g__law_draw
  have m__law_draw := m__law_draw
  have s__law_draw := @sp__law_draw _ g__law_draw
  have g__law_round := H_k17_law_2__law_round hT
  have e__law_round := h__law_round g__law_round
  have m__law_round := m__law_round
  have s__law_round := @sp__law_round _ g__law_round
  have g__law_all_most := H_k17_law_2__law_all_most hT
  have e__law_all_most := h__law_all_most g__law_all_most
  have m__law_all_most := m__law_all_most
  have s__law_all_most := @sp__law_all_most _ g__law_all_most
  have g_from_above_nw := H_k17_law_2_from_above_nw hT
  have e_from_above_nw := h_from_above_nw g_from_above_nw
  have m_from_above_nw := m_from_above_nw
  have s_from_above_nw := @sp_from_above_nw _ g_from_above_nw
  have g__law_are_amounts_3 := H_k17_law_2__law_are_amounts_3 hT
  have e__law_are_amounts_3 := h__law_are_amounts_3 g__law_are_amounts_3
  have m__law_are_amounts_3 := m__law_are_amounts_3
  have s__law_are_amounts_3 := @sp__law_are_amounts_3 _ g__law_are_amounts_3
  have g_from_above := H_k17_law_2_from_above hT
  have e_from_above := h_from_above g_from_above
  have m_from_above := m_from_above
  have s_from_above := @sp_from_above _ g_from_above
  have g_settled_from_below := H_k17_law_2_settled_from_below hT
  have e_settled_from_below := h_settled_from_below g_settled_from_below
  have m_settled_from_below := m_settled_from_below
  have s_settled_from_below := @sp_settled_from_below _ g_settled_from_below
  have g_settled_from_above := H_k17_law_2_settled_from_above hT
  have e_settled_from_above := h_settled_from_above g_settled_from_above
  have m_settled_from_above := m_settled_from_above
  have s_settled_from_above := @sp_settled_from_above _ g_settled_from_above
  have g__law_settled_4 := H_k17_law_2__law_settled_4 hT
  have e__law_settled_4 := h__law_settled_4 g__law_settled_4
  have m__law_settled_4 := m__law_settled_4
  have s__law_settled_4 := @sp__law_settled_4 _ g__law_settled_4
  refine Z.W_eq (Z.ga_W e_k17_law_2 rfl ?_)
  simp -implicitDefEqProofs only [t_k17_law_2, List.map_cons, List.map_nil, List.replicate, List.length_cons, List.length_nil, List.cons_append, List.nil_append, Nat.reduceAdd, Nat.reduceSub]
  walk_at "v"
  refine Z.useW (s__law_flat_2 _ ns 0 0 6 (by decide) (by decide)) fun R os hr => ?_
  obtain ⟨fs, p2, r2, hp2, hfl, hfs, e⟩ := hr
  cases e
  clear s__law_flat_2
  have hl : 0 < fs.length ∧ fs.length ≤ 12 := by omega
  clear hfl
  have hok : ∀ f ∈ fs, okF fs.length f := fun f h => (hfs f h).1
  have hrep : okRepr (.lst (fs.map ff)) = true := by
    have h1 := Sz.lst (f := ff) (xs := fs) (fun f h => Sz.ff (by omega) (by decide) (by decide) (hfs f h).1 (hfs f h).2) (L := 12) hl.2
    exact h1.repr rfl (by decide) (by decide)
  walk_at "v"
  refine Z.useW (s__law_draw _ ns p2 r2 13 hp2 (by decide)) fun R os hr => ?_
  obtain ⟨t0, p3, r3, hp3, ht0, e⟩ := hr
  cases e
  walk_at "v"
  refine Z.useW (s__law_draw _ ns p3 r3 10 hp3 (by decide)) fun R os hr => ?_
  obtain ⟨w, p4, r4, hp4, hw, e⟩ := hr
  cases e
  have hR := fun (y : List Am) (hy : y.length = fs.length) k => s__law_round k y fs (fun f h => by rw [hy]; exact hok f h) (by omega) (by omega)
  clear s__law_draw s__law_round hfs
  by_cases hw0 : w = 0
  · obtain ⟨t, ht, htb⟩ : ∃ t : Nat, (200 : Int) = (t : Int) ∧ t ≤ 200 := ⟨200, rfl, by decide⟩
    walk_at "v"
    refine Z.compMap2 am (fun _ : FF => none) (by simp [lim]; omega) (fun f K kn hf hK => ?_) ?_
    · exact hK
    have hz : (fs.map fun _ : FF => (none : Am)) = List.replicate fs.length none := List.eq_replicate_iff.mpr ⟨List.length_map .., fun a ha => by obtain ⟨_, _, rfl⟩ := List.mem_map.mp ha; rfl⟩
    have hz0 : (fs.map fun _ : FF => (some 0 : Am)) = List.replicate fs.length (some 0) := List.eq_replicate_iff.mpr ⟨List.length_map .., fun a ha => by obtain ⟨_, _, rfl⟩ := List.mem_map.mp ha; rfl⟩
    rw [hz]
    have hsb := fun k => s_from_above k fs t hok (by omega) (by omega)
    have hsn := fun k => s_from_above_nw k fs t hok ⟨hl.1, by omega⟩ (by omega)
    have hU := it_dn hok
    have hIl := fun j => itF_len (non_len fs.length) j
    have hIo := fun j => itF_ok hok (non_len fs.length) (non_ok _) j
    have hs1 := fun k => s_settled_from_below k fs t hok (by omega) (by omega)
    have hs2 := fun k => s_settled_from_above k fs t hok (by omega) (by omega)
    have ht1 := fun k => s__law_settled_4 k fs (List.replicate fs.length (some 0)) t hok (by omega) (zer_len _) (by omega)
    have ht2 := fun k => s__law_settled_4 k fs (List.replicate fs.length none) t hok (by omega) (non_len _) (by omega)
    have e0' : itF (fvals fs) (List.replicate fs.length none) 0 = List.replicate fs.length none := rfl
    generalize hzz : List.replicate fs.length (none : Am) = z at *
    generalize hzz0 : List.replicate fs.length (some 0 : Am) = z0 at *
    generalize setl (fvals fs) z t = q1 at *
    generalize setl (fvals fs) z0 t = q0 at *
    clear s_from_above s_from_above_nw s_settled_from_below s_settled_from_above s__law_settled_4
    walk_at "v"
    refine Z.forW (σ := Nat) [some (.scr ns), some (.lst [.lst (ns.map .int), .int p4, .int r4]), some (.lst (fs.map ff)), some (.str (rp (.lst (fs.map ff)))), some (.int (t : Int)), none, none, none, none, none, none, none, none] (fun j => [(5, .lst ((itF (fvals fs) z j).map am))]) (fun i j => j = i) 0 rfl rfl (fun i y j K hj hi hK => ?_) (fun j hj => ?_)
    · subst hi
      have hK := hK (j + 1) rfl
      have e1 : itF (fvals fs) z (j + 1) = fvals fs (itF (fvals fs) z j) := rfl
      have u1 := hU j
      have l0 := hIl j
      have l1 := hIl (j + 1)
      rw [e1] at hK u1 l1
      generalize itF (fvals fs) z j = y at *
      have r1 := fun k => hR y l0 k
      have a1 := fun k => s__law_all_most k (fvals fs y) y (by omega) (by omega) (by rw [l1]; exact u1)
      clear hR hU hIl hIo hsb hsn hs1 hs2 ht1 ht2 e0' e1 s__law_all_most hj
      walk_at "v"
      exact hK
    · rw [List.length_range] at hj
      subst hj
      have l0 := hIl j
      have a1 := fun k => s__law_are_amounts_3 k _ fs.length l0 (by omega) (hIo j)
      have hYm2 : ((itF (fvals fs) z j).map am).length ≤ 12 := by rw [List.length_map]; omega
      clear hR hU hIl hIo e0' s__law_are_amounts_3 s__law_all_most
      generalize itF (fvals fs) z j = y at *
      walk_at "v"
      refine Z.compMap2 am (fun _ : FF => some 0) (by simp [lim]; omega) (fun f K kn hf hK => ?_) ?_
      · exact hK
      rw [hz0]
      walk_at "v"
      refine Z.compMap2 am (fun _ : FF => none) (by simp [lim]; omega) (fun f K kn hf hK => ?_) ?_
      · exact hK
      rw [hz]
      walk_at "v"
  · obtain ⟨t, ht⟩ : ∃ t : Nat, t0 = (t : Int) := ⟨t0.toNat, by omega⟩
    subst ht
    have htb : t ≤ 200 := by omega
    walk_at "v"
    refine Z.compMap2 am (fun _ : FF => none) (by simp [lim]; omega) (fun f K kn hf hK => ?_) ?_
    · exact hK
    have hz : (fs.map fun _ : FF => (none : Am)) = List.replicate fs.length none := List.eq_replicate_iff.mpr ⟨List.length_map .., fun a ha => by obtain ⟨_, _, rfl⟩ := List.mem_map.mp ha; rfl⟩
    have hz0 : (fs.map fun _ : FF => (some 0 : Am)) = List.replicate fs.length (some 0) := List.eq_replicate_iff.mpr ⟨List.length_map .., fun a ha => by obtain ⟨_, _, rfl⟩ := List.mem_map.mp ha; rfl⟩
    rw [hz]
    have hsb := fun k => s_from_above k fs t hok (by omega) (by omega)
    have hsn := fun k => s_from_above_nw k fs t hok ⟨hl.1, by omega⟩ (by omega)
    have hU := it_dn hok
    have hIl := fun j => itF_len (non_len fs.length) j
    have hIo := fun j => itF_ok hok (non_len fs.length) (non_ok _) j
    have hs1 := fun k => s_settled_from_below k fs t hok (by omega) (by omega)
    have hs2 := fun k => s_settled_from_above k fs t hok (by omega) (by omega)
    have ht1 := fun k => s__law_settled_4 k fs (List.replicate fs.length (some 0)) t hok (by omega) (zer_len _) (by omega)
    have ht2 := fun k => s__law_settled_4 k fs (List.replicate fs.length none) t hok (by omega) (non_len _) (by omega)
    have e0' : itF (fvals fs) (List.replicate fs.length none) 0 = List.replicate fs.length none := rfl
    generalize hzz : List.replicate fs.length (none : Am) = z at *
    generalize hzz0 : List.replicate fs.length (some 0 : Am) = z0 at *
    generalize setl (fvals fs) z t = q1 at *
    generalize setl (fvals fs) z0 t = q0 at *
    clear s_from_above s_from_above_nw s_settled_from_below s_settled_from_above s__law_settled_4
    walk_at "v"
    refine Z.forW (σ := Nat) [some (.scr ns), some (.lst [.lst (ns.map .int), .int p4, .int r4]), some (.lst (fs.map ff)), some (.str (rp (.lst (fs.map ff)))), some (.int (t : Int)), none, none, none, none, none, none, none, none] (fun j => [(5, .lst ((itF (fvals fs) z j).map am))]) (fun i j => j = i) 0 rfl rfl (fun i y j K hj hi hK => ?_) (fun j hj => ?_)
    · subst hi
      have hK := hK (j + 1) rfl
      have e1 : itF (fvals fs) z (j + 1) = fvals fs (itF (fvals fs) z j) := rfl
      have u1 := hU j
      have l0 := hIl j
      have l1 := hIl (j + 1)
      rw [e1] at hK u1 l1
      generalize itF (fvals fs) z j = y at *
      have r1 := fun k => hR y l0 k
      have a1 := fun k => s__law_all_most k (fvals fs y) y (by omega) (by omega) (by rw [l1]; exact u1)
      clear hR hU hIl hIo hsb hsn hs1 hs2 ht1 ht2 e0' e1 s__law_all_most hj
      walk_at "v"
      exact hK
    · rw [List.length_range] at hj
      subst hj
      have l0 := hIl j
      have a1 := fun k => s__law_are_amounts_3 k _ fs.length l0 (by omega) (hIo j)
      have hYm2 : ((itF (fvals fs) z j).map am).length ≤ 12 := by rw [List.length_map]; omega
      clear hR hU hIl hIo e0' s__law_are_amounts_3 s__law_all_most
      generalize itF (fvals fs) z j = y at *
      walk_at "v"
      refine Z.compMap2 am (fun _ : FF => some 0) (by simp [lim]; omega) (fun f K kn hf hK => ?_) ?_
      · exact hK
      rw [hz0]
      walk_at "v"
      refine Z.compMap2 am (fun _ : FF => none) (by simp [lim]; omega) (fun f K kn hf hK => ?_) ?_
      · exact hK
      rw [hz]
      walk_at "v"

end C

namespace C
open PySem
def top (i : Nat) : Stmt := PySem.Challenge.pw_circlesettle_k17_rounds_from_above.main.body.getD i (.Pass ⟨0, 0, 0, 0⟩)
def TL : List (Nat × VS.Df) := [(68, t__law_draw), (69, t__law_amount_2), (70, t__law_arcs_2), (71, t__law_formula_3), (72, t__law_flat_2), (73, t__law_most), (74, t__law_shift), (75, t__law_value_2), (76, t__law_round), (79, t__law_all_most), (6, t_at_most), (7, t_shifted), (10, t_least_of), (11, t_greatest_of), (46, t_flat_value), (47, t_flat_values), (229, t_rounds_from), (232, t_from_above), (325, t_from_above_nw), (231, t__law_are_amounts_3), (233, t_settled_at), (234, t_settled_from_below), (235, t_settled_from_above), (330, t__law_settled_4), (331, t_k17_law_2)]
def T : VS.Tb := VS.tbOf TL
def Gs : VS.Gc := []
theorem HT__law_draw : H__law_draw T := rfl
theorem HT__law_amount_2 : H__law_amount_2 T := ⟨rfl, HT__law_draw⟩
theorem HT__law_arcs_2 : H__law_arcs_2 T := ⟨rfl, HT__law_draw⟩
theorem HT__law_formula_3 : H__law_formula_3 T := ⟨rfl, HT__law_draw, HT__law_amount_2, HT__law_arcs_2⟩
theorem HT__law_flat_2 : H__law_flat_2 T := ⟨rfl, HT__law_draw, HT__law_formula_3⟩
theorem HT__law_most : H__law_most T := rfl
theorem HT__law_shift : H__law_shift T := rfl
theorem HT__law_value_2 : H__law_value_2 T := ⟨rfl, HT__law_most, HT__law_shift⟩
theorem HT__law_round : H__law_round T := ⟨rfl, HT__law_value_2⟩
theorem HT__law_all_most : H__law_all_most T := ⟨rfl, HT__law_most⟩
theorem HT_at_most : H_at_most T := rfl
theorem HT_shifted : H_shifted T := rfl
theorem HT_least_of : H_least_of T := ⟨rfl, HT_at_most⟩
theorem HT_greatest_of : H_greatest_of T := ⟨rfl, HT_at_most⟩
theorem HT_flat_value : H_flat_value T := ⟨rfl, HT_at_most, HT_shifted, HT_least_of, HT_greatest_of⟩
theorem HT_flat_values : H_flat_values T := ⟨rfl, HT_flat_value⟩
theorem HT_rounds_from : H_rounds_from T := ⟨rfl, HT_flat_values⟩
theorem HT_from_above : H_from_above T := ⟨rfl, HT_rounds_from⟩
theorem HT_from_above_nw : H_from_above_nw T := ⟨rfl, HT_from_above⟩
theorem HT__law_are_amounts_3 : H__law_are_amounts_3 T := rfl
theorem HT_settled_at : H_settled_at T := rfl
theorem HT_settled_from_below : H_settled_from_below T := ⟨rfl, HT_settled_at, HT_rounds_from⟩
theorem HT_settled_from_above : H_settled_from_above T := ⟨rfl, HT_settled_at, HT_rounds_from⟩
theorem HT__law_settled_4 : H__law_settled_4 T := ⟨rfl, HT__law_round⟩
theorem HT_k17_law_2 : H_k17_law_2 T := ⟨rfl, HT__law_flat_2, HT__law_draw, HT__law_round, HT__law_all_most, HT_from_above_nw, HT__law_are_amounts_3, HT_from_above, HT_settled_from_below, HT_settled_from_above, HT__law_settled_4⟩
theorem sc__law_draw : L2.FnScope t__law_draw.N ["_law_stream", "_law_many"] (L2.defScope (top 15)) := ⟨rfl, rfl, rfl, by decide +kernel, rfl, by decide +kernel, by decide +kernel⟩
theorem ck__law_draw : (VS.chkSs T Gs ⟨t__law_draw.N, L2.defScope (top 15), fun _ => true⟩ (t__law_draw.fr && !t__law_draw.nw) (VS.oIdx t__law_draw.ms 0) none t__law_draw.body (VS.modesOf t__law_draw) (L2.defBody (top 15))).isSome = true := by decide +kernel
theorem sc__law_amount_2 : L2.FnScope t__law_amount_2.N ["_law_stream", "_law_most_here"] (L2.defScope (top 16)) := ⟨rfl, rfl, rfl, by decide +kernel, rfl, by decide +kernel, by decide +kernel⟩
theorem ck__law_amount_2 : (VS.chkSs T Gs ⟨t__law_amount_2.N, L2.defScope (top 16), fun _ => true⟩ (t__law_amount_2.fr && !t__law_amount_2.nw) (VS.oIdx t__law_amount_2.ms 0) none t__law_amount_2.body (VS.modesOf t__law_amount_2) (L2.defBody (top 16))).isSome = true := by decide +kernel
theorem sc__law_arcs_2 : L2.FnScope t__law_arcs_2.N ["_law_stream", "_law_many"] (L2.defScope (top 17)) := ⟨rfl, rfl, rfl, by decide +kernel, rfl, by decide +kernel, by decide +kernel⟩
theorem ck__law_arcs_2 : (VS.chkSs T Gs ⟨t__law_arcs_2.N, L2.defScope (top 17), fun _ => true⟩ (t__law_arcs_2.fr && !t__law_arcs_2.nw) (VS.oIdx t__law_arcs_2.ms 0) none t__law_arcs_2.body (VS.modesOf t__law_arcs_2) (L2.defBody (top 17))).isSome = true := by decide +kernel
theorem sc__law_formula_3 : L2.FnScope t__law_formula_3.N ["_law_stream", "_law_many"] (L2.defScope (top 18)) := ⟨rfl, rfl, rfl, by decide +kernel, rfl, by decide +kernel, by decide +kernel⟩
theorem ck__law_formula_3 : (VS.chkSs T Gs ⟨t__law_formula_3.N, L2.defScope (top 18), fun _ => true⟩ (t__law_formula_3.fr && !t__law_formula_3.nw) (VS.oIdx t__law_formula_3.ms 0) none t__law_formula_3.body (VS.modesOf t__law_formula_3) (L2.defBody (top 18))).isSome = true := by decide +kernel
theorem sc__law_flat_2 : L2.FnScope t__law_flat_2.N ["_law_stream", "_law_most_here"] (L2.defScope (top 19)) := ⟨rfl, rfl, rfl, by decide +kernel, rfl, by decide +kernel, by decide +kernel⟩
theorem ck__law_flat_2 : (VS.chkSs T Gs ⟨t__law_flat_2.N, L2.defScope (top 19), fun _ => true⟩ (t__law_flat_2.fr && !t__law_flat_2.nw) (VS.oIdx t__law_flat_2.ms 0) none t__law_flat_2.body (VS.modesOf t__law_flat_2) (L2.defBody (top 19))).isSome = true := by decide +kernel
theorem sc__law_most : L2.FnScope t__law_most.N ["_law_a", "_law_b"] (L2.defScope (top 20)) := ⟨rfl, rfl, rfl, by decide +kernel, rfl, by decide +kernel, by decide +kernel⟩
theorem ck__law_most : (VS.chkSs T Gs ⟨t__law_most.N, L2.defScope (top 20), fun _ => true⟩ (t__law_most.fr && !t__law_most.nw) (VS.oIdx t__law_most.ms 0) none t__law_most.body (VS.modesOf t__law_most) (L2.defBody (top 20))).isSome = true := by decide +kernel
theorem sc__law_shift : L2.FnScope t__law_shift.N ["_law_a", "_law_c"] (L2.defScope (top 21)) := ⟨rfl, rfl, rfl, by decide +kernel, rfl, by decide +kernel, by decide +kernel⟩
theorem ck__law_shift : (VS.chkSs T Gs ⟨t__law_shift.N, L2.defScope (top 21), fun _ => true⟩ (t__law_shift.fr && !t__law_shift.nw) (VS.oIdx t__law_shift.ms 0) none t__law_shift.body (VS.modesOf t__law_shift) (L2.defBody (top 21))).isSome = true := by decide +kernel
theorem sc__law_value_2 : L2.FnScope t__law_value_2.N ["_law_formula_here", "_law_x"] (L2.defScope (top 22)) := ⟨rfl, rfl, rfl, by decide +kernel, rfl, by decide +kernel, by decide +kernel⟩
theorem ck__law_value_2 : (VS.chkSs T Gs ⟨t__law_value_2.N, L2.defScope (top 22), fun _ => true⟩ (t__law_value_2.fr && !t__law_value_2.nw) (VS.oIdx t__law_value_2.ms 0) none t__law_value_2.body (VS.modesOf t__law_value_2) (L2.defBody (top 22))).isSome = true := by decide +kernel
theorem sc__law_round : L2.FnScope t__law_round.N ["_law_flat_here", "_law_x"] (L2.defScope (top 23)) := ⟨rfl, rfl, rfl, by decide +kernel, rfl, by decide +kernel, by decide +kernel⟩
theorem ck__law_round : (VS.chkSs T Gs ⟨t__law_round.N, L2.defScope (top 23), fun _ => true⟩ (t__law_round.fr && !t__law_round.nw) (VS.oIdx t__law_round.ms 0) none t__law_round.body (VS.modesOf t__law_round) (L2.defBody (top 23))).isSome = true := by decide +kernel
theorem sc__law_all_most : L2.FnScope t__law_all_most.N ["_law_x", "_law_y"] (L2.defScope (top 24)) := ⟨rfl, rfl, rfl, by decide +kernel, rfl, by decide +kernel, by decide +kernel⟩
theorem ck__law_all_most : (VS.chkSs T Gs ⟨t__law_all_most.N, L2.defScope (top 24), fun _ => true⟩ (t__law_all_most.fr && !t__law_all_most.nw) (VS.oIdx t__law_all_most.ms 0) none t__law_all_most.body (VS.modesOf t__law_all_most) (L2.defBody (top 24))).isSome = true := by decide +kernel
theorem sc_at_most : L2.FnScope t_at_most.N ["a", "b"] (L2.defScope (top 1)) := ⟨rfl, rfl, rfl, by decide +kernel, rfl, by decide +kernel, by decide +kernel⟩
theorem ck_at_most : (VS.chkSs T Gs ⟨t_at_most.N, L2.defScope (top 1), fun _ => true⟩ (t_at_most.fr && !t_at_most.nw) (VS.oIdx t_at_most.ms 0) none t_at_most.body (VS.modesOf t_at_most) (L2.defBody (top 1))).isSome = true := by decide +kernel
theorem sc_shifted : L2.FnScope t_shifted.N ["a", "c"] (L2.defScope (top 4)) := ⟨rfl, rfl, rfl, by decide +kernel, rfl, by decide +kernel, by decide +kernel⟩
theorem ck_shifted : (VS.chkSs T Gs ⟨t_shifted.N, L2.defScope (top 4), fun _ => true⟩ (t_shifted.fr && !t_shifted.nw) (VS.oIdx t_shifted.ms 0) none t_shifted.body (VS.modesOf t_shifted) (L2.defBody (top 4))).isSome = true := by decide +kernel
theorem sc_least_of : L2.FnScope t_least_of.N ["amounts"] (L2.defScope (top 2)) := ⟨rfl, rfl, rfl, by decide +kernel, rfl, by decide +kernel, by decide +kernel⟩
theorem ck_least_of : (VS.chkSs T Gs ⟨t_least_of.N, L2.defScope (top 2), fun _ => true⟩ (t_least_of.fr && !t_least_of.nw) (VS.oIdx t_least_of.ms 0) none t_least_of.body (VS.modesOf t_least_of) (L2.defBody (top 2))).isSome = true := by decide +kernel
theorem sc_greatest_of : L2.FnScope t_greatest_of.N ["amounts"] (L2.defScope (top 3)) := ⟨rfl, rfl, rfl, by decide +kernel, rfl, by decide +kernel, by decide +kernel⟩
theorem ck_greatest_of : (VS.chkSs T Gs ⟨t_greatest_of.N, L2.defScope (top 3), fun _ => true⟩ (t_greatest_of.fr && !t_greatest_of.nw) (VS.oIdx t_greatest_of.ms 0) none t_greatest_of.body (VS.modesOf t_greatest_of) (L2.defBody (top 3))).isSome = true := by decide +kernel
theorem sc_flat_value : L2.FnScope t_flat_value.N ["formula", "x"] (L2.defScope (top 6)) := ⟨rfl, rfl, rfl, by decide +kernel, rfl, by decide +kernel, by decide +kernel⟩
theorem ck_flat_value : (VS.chkSs T Gs ⟨t_flat_value.N, L2.defScope (top 6), fun _ => true⟩ (t_flat_value.fr && !t_flat_value.nw) (VS.oIdx t_flat_value.ms 0) none t_flat_value.body (VS.modesOf t_flat_value) (L2.defBody (top 6))).isSome = true := by decide +kernel
theorem sc_flat_values : L2.FnScope t_flat_values.N ["flat", "x"] (L2.defScope (top 7)) := ⟨rfl, rfl, rfl, by decide +kernel, rfl, by decide +kernel, by decide +kernel⟩
theorem ck_flat_values : (VS.chkSs T Gs ⟨t_flat_values.N, L2.defScope (top 7), fun _ => true⟩ (t_flat_values.fr && !t_flat_values.nw) (VS.oIdx t_flat_values.ms 0) none t_flat_values.body (VS.modesOf t_flat_values) (L2.defBody (top 7))).isSome = true := by decide +kernel
theorem sc_rounds_from : L2.FnScope t_rounds_from.N ["flat", "x", "rounds"] (L2.defScope (top 9)) := ⟨rfl, rfl, rfl, by decide +kernel, rfl, by decide +kernel, by decide +kernel⟩
theorem ck_rounds_from : (VS.chkSs T Gs ⟨t_rounds_from.N, L2.defScope (top 9), fun _ => true⟩ (t_rounds_from.fr && !t_rounds_from.nw) (VS.oIdx t_rounds_from.ms 0) none t_rounds_from.body (VS.modesOf t_rounds_from) (L2.defBody (top 9))).isSome = true := by decide +kernel
theorem sc_from_above : L2.FnScope t_from_above.N ["flat", "rounds"] (L2.defScope (top 10)) := ⟨rfl, rfl, rfl, by decide +kernel, rfl, by decide +kernel, by decide +kernel⟩
theorem ck_from_above : (VS.chkSs T Gs ⟨t_from_above.N, L2.defScope (top 10), fun _ => true⟩ (t_from_above.fr && !t_from_above.nw) (VS.oIdx t_from_above.ms 0) none t_from_above.body (VS.modesOf t_from_above) (L2.defBody (top 10))).isSome = true := by decide +kernel
theorem sc_from_above_nw : L2.FnScope t_from_above_nw.N ["flat", "rounds"] (L2.defScope (top 10)) := ⟨rfl, rfl, rfl, by decide +kernel, rfl, by decide +kernel, by decide +kernel⟩
theorem ck_from_above_nw : (VS.chkSs T Gs ⟨t_from_above_nw.N, L2.defScope (top 10), fun _ => true⟩ (t_from_above_nw.fr && !t_from_above_nw.nw) (VS.oIdx t_from_above_nw.ms 0) none t_from_above_nw.body (VS.modesOf t_from_above_nw) (L2.defBody (top 10))).isSome = true := by decide +kernel
theorem sc__law_are_amounts_3 : L2.FnScope t__law_are_amounts_3.N ["_law_actual", "_law_many"] (L2.defScope (top 25)) := ⟨rfl, rfl, rfl, by decide +kernel, rfl, by decide +kernel, by decide +kernel⟩
theorem ck__law_are_amounts_3 : (VS.chkSs T Gs ⟨t__law_are_amounts_3.N, L2.defScope (top 25), fun _ => true⟩ (t__law_are_amounts_3.fr && !t__law_are_amounts_3.nw) (VS.oIdx t__law_are_amounts_3.ms 0) none t__law_are_amounts_3.body (VS.modesOf t__law_are_amounts_3) (L2.defBody (top 25))).isSome = true := by decide +kernel
theorem sc_settled_at : L2.FnScope t_settled_at.N ["told"] (L2.defScope (top 11)) := ⟨rfl, rfl, rfl, by decide +kernel, rfl, by decide +kernel, by decide +kernel⟩
theorem ck_settled_at : (VS.chkSs T Gs ⟨t_settled_at.N, L2.defScope (top 11), fun _ => true⟩ (t_settled_at.fr && !t_settled_at.nw) (VS.oIdx t_settled_at.ms 0) none t_settled_at.body (VS.modesOf t_settled_at) (L2.defBody (top 11))).isSome = true := by decide +kernel
theorem sc_settled_from_below : L2.FnScope t_settled_from_below.N ["flat", "rounds"] (L2.defScope (top 12)) := ⟨rfl, rfl, rfl, by decide +kernel, rfl, by decide +kernel, by decide +kernel⟩
theorem ck_settled_from_below : (VS.chkSs T Gs ⟨t_settled_from_below.N, L2.defScope (top 12), fun _ => true⟩ (t_settled_from_below.fr && !t_settled_from_below.nw) (VS.oIdx t_settled_from_below.ms 0) none t_settled_from_below.body (VS.modesOf t_settled_from_below) (L2.defBody (top 12))).isSome = true := by decide +kernel
theorem sc_settled_from_above : L2.FnScope t_settled_from_above.N ["flat", "rounds"] (L2.defScope (top 13)) := ⟨rfl, rfl, rfl, by decide +kernel, rfl, by decide +kernel, by decide +kernel⟩
theorem ck_settled_from_above : (VS.chkSs T Gs ⟨t_settled_from_above.N, L2.defScope (top 13), fun _ => true⟩ (t_settled_from_above.fr && !t_settled_from_above.nw) (VS.oIdx t_settled_from_above.ms 0) none t_settled_from_above.body (VS.modesOf t_settled_from_above) (L2.defBody (top 13))).isSome = true := by decide +kernel
theorem sc__law_settled_4 : L2.FnScope t__law_settled_4.N ["_law_flat_here", "_law_x", "_law_rounds"] (L2.defScope (top 27)) := ⟨rfl, rfl, rfl, by decide +kernel, rfl, by decide +kernel, by decide +kernel⟩
theorem ck__law_settled_4 : (VS.chkSs T Gs ⟨t__law_settled_4.N, L2.defScope (top 27), fun _ => true⟩ (t__law_settled_4.fr && !t__law_settled_4.nw) (VS.oIdx t__law_settled_4.ms 0) none t__law_settled_4.body (VS.modesOf t__law_settled_4) (L2.defBody (top 27))).isSome = true := by decide +kernel
theorem sc_k17_law_2 : L2.FnScope t_k17_law_2.N ["_law_script"] (L2.defScope (top 28)) := ⟨rfl, rfl, rfl, by decide +kernel, rfl, by decide +kernel, by decide +kernel⟩
theorem ck_k17_law_2 : (VS.chkSs T Gs ⟨t_k17_law_2.N, L2.defScope (top 28), fun _ => true⟩ (t_k17_law_2.fr && !t_k17_law_2.nw) (VS.oIdx t_k17_law_2.ms 0) none t_k17_law_2.body (VS.modesOf t_k17_law_2) (L2.defBody (top 28))).isSome = true := by decide +kernel
theorem law_data (ns : List Int) (h : ns.length ≤ 63) : VS.Ga T 20 331 [.scr ns] = some (.bl true, []) := sp_k17_law_2 HT_k17_law_2 ns h
end C
open PySem PySem.W PyProof.Rows
set_option maxRecDepth 100000 in
set_option maxHeartbeats 0 in
theorem PySem.Challenge.cw_circlesettle_k17_rounds_from_above_holds : PySem.Challenge.rw_circlesettle_k17_rounds_from_above.Holds := by
  w_on; o_law; k_head; (case hw => w_witness2)
  k_fill
  refine VS.walkV (l := PySem.Challenge.rw_circlesettle_k17_rounds_from_above) (n := 63) (k := 20) C.T C.Gs 331 C.t_k17_law_2 "_law_script" rfl rfl rfl rfl rfl (by decide) rfl ⟨rfl, by decide, by decide⟩ (fun w h Y => PySem.W.kIn_of Y) C.law_data ?F
  case F =>
    intro w mg h KX G
    have KX := KX
    refine' ⟨VS.mh_mk KX G ⟨?z0, ?z1, ?z2, ?z3, ?z4, ?z5, ?z6, ?z7, ?z8, ?z9, ?z10, ?z11, ?z12, ?z13, ?z14, ?z15, ?z16, ?z17, ?z18, trivial⟩ (fun p hp => by cases hp), fun f df hf => VS.AllHd.get (l := C.TL) ⟨VS.hd_mk KX G C.t__law_draw (C.top 15) ["_law_stream", "_law_many"] "_law_draw" rfl C.sc__law_draw ⟨rfl, by decide⟩ (fun _ _ _ _ _ _ us ws h1 h2 => match us, ws, h1, h2 with | [_, _], [], _, _ => rfl) C.ck__law_draw ?a0 ?l0 ?c0 ?k0,
      VS.hd_mk KX G C.t__law_amount_2 (C.top 16) ["_law_stream", "_law_most_here"] "_law_amount" rfl C.sc__law_amount_2 ⟨rfl, by decide⟩ (fun _ _ _ _ _ _ us ws h1 h2 => match us, ws, h1, h2 with | [_, _], [], _, _ => rfl) C.ck__law_amount_2 ?a1 ?l1 ?c1 ?k1,
      VS.hd_mk KX G C.t__law_arcs_2 (C.top 17) ["_law_stream", "_law_many"] "_law_arcs" rfl C.sc__law_arcs_2 ⟨rfl, by decide⟩ (fun _ _ _ _ _ _ us ws h1 h2 => match us, ws, h1, h2 with | [_, _], [], _, _ => rfl) C.ck__law_arcs_2 ?a2 ?l2 ?c2 ?k2,
      VS.hd_mk KX G C.t__law_formula_3 (C.top 18) ["_law_stream", "_law_many"] "_law_formula" rfl C.sc__law_formula_3 ⟨rfl, by decide⟩ (fun _ _ _ _ _ _ us ws h1 h2 => match us, ws, h1, h2 with | [_, _], [], _, _ => rfl) C.ck__law_formula_3 ?a3 ?l3 ?c3 ?k3,
      VS.hd_mk KX G C.t__law_flat_2 (C.top 19) ["_law_stream", "_law_most_here"] "_law_flat" rfl C.sc__law_flat_2 ⟨rfl, by decide⟩ (fun _ _ _ _ _ _ us ws h1 h2 => match us, ws, h1, h2 with | [_, _], [], _, _ => rfl) C.ck__law_flat_2 ?a4 ?l4 ?c4 ?k4,
      VS.hd_mk KX G C.t__law_most (C.top 20) ["_law_a", "_law_b"] "_law_most" rfl C.sc__law_most ⟨rfl, by decide⟩ (fun _ _ _ _ _ _ us ws h1 h2 => match us, ws, h1, h2 with | [_, _], [], _, _ => rfl) C.ck__law_most ?a5 ?l5 ?c5 ?k5,
      VS.hd_mk KX G C.t__law_shift (C.top 21) ["_law_a", "_law_c"] "_law_shift" rfl C.sc__law_shift ⟨rfl, by decide⟩ (fun _ _ _ _ _ _ us ws h1 h2 => match us, ws, h1, h2 with | [_, _], [], _, _ => rfl) C.ck__law_shift ?a6 ?l6 ?c6 ?k6,
      VS.hd_mk KX G C.t__law_value_2 (C.top 22) ["_law_formula_here", "_law_x"] "_law_value" rfl C.sc__law_value_2 ⟨rfl, by decide⟩ (fun _ _ _ _ _ _ us ws h1 h2 => match us, ws, h1, h2 with | [_, _], [], _, _ => rfl) C.ck__law_value_2 ?a7 ?l7 ?c7 ?k7,
      VS.hd_mk KX G C.t__law_round (C.top 23) ["_law_flat_here", "_law_x"] "_law_round" rfl C.sc__law_round ⟨rfl, by decide⟩ (fun _ _ _ _ _ _ us ws h1 h2 => match us, ws, h1, h2 with | [_, _], [], _, _ => rfl) C.ck__law_round ?a8 ?l8 ?c8 ?k8,
      VS.hd_mk KX G C.t__law_all_most (C.top 24) ["_law_x", "_law_y"] "_law_all_most" rfl C.sc__law_all_most ⟨rfl, by decide⟩ (fun _ _ _ _ _ _ us ws h1 h2 => match us, ws, h1, h2 with | [_, _], [], _, _ => rfl) C.ck__law_all_most ?a9 ?l9 ?c9 ?k9,
      VS.hd_mk KX G C.t_at_most (C.top 1) ["a", "b"] "at_most" rfl C.sc_at_most ⟨rfl, by decide⟩ (fun _ _ _ _ _ _ us ws h1 h2 => match us, ws, h1, h2 with | [_, _], [], _, _ => rfl) C.ck_at_most ?a10 ?l10 ?c10 ?k10,
      VS.hd_mk KX G C.t_shifted (C.top 4) ["a", "c"] "shifted" rfl C.sc_shifted ⟨rfl, by decide⟩ (fun _ _ _ _ _ _ us ws h1 h2 => match us, ws, h1, h2 with | [_, _], [], _, _ => rfl) C.ck_shifted ?a11 ?l11 ?c11 ?k11,
      VS.hd_mk KX G C.t_least_of (C.top 2) ["amounts"] "least_of" rfl C.sc_least_of ⟨rfl, by decide⟩ (fun _ _ _ _ _ _ us ws h1 h2 => match us, ws, h1, h2 with | [_], [], _, _ => rfl) C.ck_least_of ?a12 ?l12 ?c12 ?k12,
      VS.hd_mk KX G C.t_greatest_of (C.top 3) ["amounts"] "greatest_of" rfl C.sc_greatest_of ⟨rfl, by decide⟩ (fun _ _ _ _ _ _ us ws h1 h2 => match us, ws, h1, h2 with | [_], [], _, _ => rfl) C.ck_greatest_of ?a13 ?l13 ?c13 ?k13,
      VS.hd_mk KX G C.t_flat_value (C.top 6) ["formula", "x"] "flat_value" rfl C.sc_flat_value ⟨rfl, by decide⟩ (fun _ _ _ _ _ _ us ws h1 h2 => match us, ws, h1, h2 with | [_, _], [], _, _ => rfl) C.ck_flat_value ?a14 ?l14 ?c14 ?k14,
      VS.hd_mk KX G C.t_flat_values (C.top 7) ["flat", "x"] "flat_values" rfl C.sc_flat_values ⟨rfl, by decide⟩ (fun _ _ _ _ _ _ us ws h1 h2 => match us, ws, h1, h2 with | [_, _], [], _, _ => rfl) C.ck_flat_values ?a15 ?l15 ?c15 ?k15,
      VS.hd_mk KX G C.t_rounds_from (C.top 9) ["flat", "x", "rounds"] "rounds_from" rfl C.sc_rounds_from ⟨rfl, by decide⟩ (fun _ _ _ _ _ _ us ws h1 h2 => match us, ws, h1, h2 with | [_, _, _], [], _, _ => rfl) C.ck_rounds_from ?a16 ?l16 ?c16 ?k16,
      VS.hd_mk KX G C.t_from_above (C.top 10) ["flat", "rounds"] "from_above" rfl C.sc_from_above ⟨rfl, by decide⟩ (fun _ _ _ _ _ _ us ws h1 h2 => match us, ws, h1, h2 with | [_], [_], _, _ => rfl) C.ck_from_above ?a17 ?l17 ?c17 ?k17,
      VS.hd_mk KX G C.t_from_above_nw (C.top 10) ["flat", "rounds"] "from_above" rfl C.sc_from_above_nw ⟨rfl, by decide⟩ (fun _ _ _ _ _ _ us ws h1 h2 => match us, ws, h1, h2 with | [_], [_], _, _ => rfl) C.ck_from_above_nw ?a18 ?l18 ?c18 ?k18,
      VS.hd_mk KX G C.t__law_are_amounts_3 (C.top 25) ["_law_actual", "_law_many"] "_law_are_amounts" rfl C.sc__law_are_amounts_3 ⟨rfl, by decide⟩ (fun _ _ _ _ _ _ us ws h1 h2 => match us, ws, h1, h2 with | [_, _], [], _, _ => rfl) C.ck__law_are_amounts_3 ?a19 ?l19 ?c19 ?k19,
      VS.hd_mk KX G C.t_settled_at (C.top 11) ["told"] "settled_at" rfl C.sc_settled_at ⟨rfl, by decide⟩ (fun _ _ _ _ _ _ us ws h1 h2 => match us, ws, h1, h2 with | [_], [], _, _ => rfl) C.ck_settled_at ?a20 ?l20 ?c20 ?k20,
      VS.hd_mk KX G C.t_settled_from_below (C.top 12) ["flat", "rounds"] "settled_from_below" rfl C.sc_settled_from_below ⟨rfl, by decide⟩ (fun _ _ _ _ _ _ us ws h1 h2 => match us, ws, h1, h2 with | [_], [_], _, _ => rfl) C.ck_settled_from_below ?a21 ?l21 ?c21 ?k21,
      VS.hd_mk KX G C.t_settled_from_above (C.top 13) ["flat", "rounds"] "settled_from_above" rfl C.sc_settled_from_above ⟨rfl, by decide⟩ (fun _ _ _ _ _ _ us ws h1 h2 => match us, ws, h1, h2 with | [_], [_], _, _ => rfl) C.ck_settled_from_above ?a22 ?l22 ?c22 ?k22,
      VS.hd_mk KX G C.t__law_settled_4 (C.top 27) ["_law_flat_here", "_law_x", "_law_rounds"] "_law_settled" rfl C.sc__law_settled_4 ⟨rfl, by decide⟩ (fun _ _ _ _ _ _ us ws h1 h2 => match us, ws, h1, h2 with | [_, _, _], [], _, _ => rfl) C.ck__law_settled_4 ?a23 ?l23 ?c23 ?k23,
      VS.hd_mk KX G C.t_k17_law_2 (C.top 28) ["_law_script"] "law" rfl C.sc_k17_law_2 ⟨rfl, by decide⟩ (fun _ _ _ _ _ _ us ws h1 h2 => match us, ws, h1, h2 with | [_], [], _, _ => rfl) C.ck_k17_law_2 ?a24 ?l24 ?c24 ?k24, trivial⟩ f df hf⟩
    (case z0 => k_is)
    (case z1 => k_is)
    (case z2 => k_is)
    (case z3 => k_is)
    (case z4 => k_is)
    (case z5 => k_is)
    (case z6 => k_is)
    (case z7 => k_is)
    (case z8 => k_is)
    (case z9 => k_is)
    (case z10 => k_is)
    (case z11 => k_is)
    (case z12 => k_is)
    (case z13 => k_is)
    (case z14 => k_is)
    (case z15 => k_is)
    (case z16 => k_is)
    (case z17 => k_is)
    (case z18 => k_is)
    (case a0 => k_is); (case l0 => k_is); (case c0 => k_is); (case k0 => k_is)
    (case a1 => k_is); (case l1 => k_is); (case c1 => k_is); (case k1 => k_is)
    (case a2 => k_is); (case l2 => k_is); (case c2 => k_is); (case k2 => k_is)
    (case a3 => k_is); (case l3 => k_is); (case c3 => k_is); (case k3 => k_is)
    (case a4 => k_is); (case l4 => k_is); (case c4 => k_is); (case k4 => k_is)
    (case a5 => k_is); (case l5 => k_is); (case c5 => k_is); (case k5 => k_is)
    (case a6 => k_is); (case l6 => k_is); (case c6 => k_is); (case k6 => k_is)
    (case a7 => k_is); (case l7 => k_is); (case c7 => k_is); (case k7 => k_is)
    (case a8 => k_is); (case l8 => k_is); (case c8 => k_is); (case k8 => k_is)
    (case a9 => k_is); (case l9 => k_is); (case c9 => k_is); (case k9 => k_is)
    (case a10 => k_is); (case l10 => k_is); (case c10 => k_is); (case k10 => k_is)
    (case a11 => k_is); (case l11 => k_is); (case c11 => k_is); (case k11 => k_is)
    (case a12 => k_is); (case l12 => k_is); (case c12 => k_is); (case k12 => k_is)
    (case a13 => k_is); (case l13 => k_is); (case c13 => k_is); (case k13 => k_is)
    (case a14 => k_is); (case l14 => k_is); (case c14 => k_is); (case k14 => k_is)
    (case a15 => k_is); (case l15 => k_is); (case c15 => k_is); (case k15 => k_is)
    (case a16 => k_is); (case l16 => k_is); (case c16 => k_is); (case k16 => k_is)
    (case a17 => k_is); (case l17 => k_is); (case c17 => k_is); (case k17 => k_is)
    (case a18 => k_is); (case l18 => k_is); (case c18 => k_is); (case k18 => k_is)
    (case a19 => k_is); (case l19 => k_is); (case c19 => k_is); (case k19 => k_is)
    (case a20 => k_is); (case l20 => k_is); (case c20 => k_is); (case k20 => k_is)
    (case a21 => k_is); (case l21 => k_is); (case c21 => k_is); (case k21 => k_is)
    (case a22 => k_is); (case l22 => k_is); (case c22 => k_is); (case k22 => k_is)
    (case a23 => k_is); (case l23 => k_is); (case c23 => k_is); (case k23 => k_is)
    (case a24 => k_is); (case l24 => k_is); (case c24 => k_is); (case k24 => k_is)
