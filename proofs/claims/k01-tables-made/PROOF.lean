import PyProof.Rows.All
import HandS.ForMost
import HandS.Flow
import HandS.ForExc
import HandS.CallSlots
import HandS.Style
import HandS.TupLe
import HandS.Property
import HandS.Iter
import HandS.Zip
import HandS.DictComp
import HandS.IsInst
import HandS.More
import HandS.WordsDict
import KE.KDictPairs
import KE.KDictCopyH
import HandS.Finally
import HandS.Text
import HandS.SetFor
import HandS.OwnEq
import PyProof.InstNe
import HandS.ListItems
import HandS.Defaults
import HandS.HeadHook1
import HandS.HeadHook2
import HandS.Head0
import HandS.Head1
import HandS.Head2
import HandS.HeadEnd
import HandS.WordsExc
import PySem.Challenge.RW_statementlots_k01_tables_made
section
/-! MP: a small deterministic interpreter for a part of Python. Part A: syntax, values, evaluator. -/
set_option autoImplicit false
namespace MP
open PySem L2

/-! ### values and heaps -/
inductive Val where
  | non | bl (b : Bool) | int (i : Int) | str (x : Str) | tup (xs : List Val) | ref (n : Nat) | cls (c : Nat) | ty (n : String) | scr (ns : List Int)

inductive B where
  | lst (xs : List Val)
  | dct (kvs : List (Key × Val))
  | ins (c : Nat) (fs : List (Str × Val))

abbrev Cell := Bool × B
abbrev Heap := List Cell
abbrev Env := List (Option Val)

def rd (h : Heap) (a : Nat) : Option B := (h[a]?).map (·.2)
def wr (h : Heap) (a : Nat) (b : B) : Option Heap := match h[a]? with
  | some (false, _) => some (h.set a (false, b))
  | _ => none

inductive Rs (α : Type) where
  | ok (a : α) (h : Heap)
  | ex (c : Nat) (fs : List (Str × Val)) (h : Heap)
  | bad

def Rs.bind {α β : Type} (r : Rs α) (f : α → Heap → Rs β) : Rs β := match r with
  | .ok a h => f a h
  | .ex c fs h => .ex c fs h
  | .bad => .bad

def al (h : Heap) (b : B) : Rs Val := .ok (.ref h.length) (h ++ [(false, b)])
def opt {α : Type} (o : Option α) (h : Heap) : Rs α := match o with
  | some a => .ok a h
  | none => .bad

/-! ### syntax -/
inductive Bop where
  | add | sub | mul | fdiv | mod | pow | bor
inductive Cop where
  | eq | ne | lt | le | gt | ge | is | isn | in_ | nin
/-- built-in functions -/
inductive Bf where
  | len | int | str | list | tuple | dict | set | sorted | sum | all | any | min | max | abs | isinst | repr
/-- methods of built-in types -/
inductive Bm where
  | append | extend | pop | clear | get | items | values | keys | join | split | partition

mutual
inductive E where
  | var (i : Nat)
  | lit (v : Val)
  | glob (x : Str) (v : Val)
  | bin (op : Bop) (a b : E)
  | neg (a : E)
  | cmp (op : Cop) (a b : E)
  | cmp2 (op op' : Cop) (a b c : E)
  | and (a b : E)
  | or (a b : E)
  | not (a : E)
  | ite (c a b : E)
  | tup (es : Es)
  | lst (es : Es)
  | dict (ks vs : Es)
  | call (f : Nat) (es : Es)
  | make (c : Nat) (es : Es)
  | meth (o : E) (m : Str) (es : Es)
  | attr (o : E) (f : Str)
  | bf (f : Bf) (es : Es)
  | bm (m : Bm) (o : E) (es : Es)
  | ix (a i : E)
  | sl (a : E) (lo hi : Eo)
  | rev (a : E)
  | lc (el : E) (tg : Tg) (it : It) (c : Eo) (own : List (Str × Nat))
  | dc (k v : E) (tg : Tg) (it : It) (c : Eo) (own : List (Str × Nat))
inductive Es where
  | nil
  | cons (e : E) (es : Es)
inductive Eo where
  | none
  | some (e : E)
inductive It where
  | val (e : E)
  | items (e : E)
  | values (e : E)
  | range (es : Es)
  | enum (e : E)
  | zip (a b : E)
inductive Tg where
  | name (i : Nat)
  | tup (ts : Tgs)
  | sub (o i : E)
  | fld (o : E) (f : Str)
inductive Tgs where
  | nil
  | cons (t : Tg) (ts : Tgs)
end

mutual
inductive S where
  | pass
  | expr (e : E)
  | ret (e : Eo)
  | asg (t : Tg) (e : E)
  | aug (t : Tg) (op : Bop) (e : E)
  | ite (c : E) (a b : Ss)
  | for_ (t : Tg) (it : It) (b : Ss)
  | while_ (c : E) (b : Ss)
  | raise (c : Nat) (es : Es)
  | try_ (b : Ss) (hs : Hs)
  | break_
  | continue_
inductive Ss where
  | nil
  | cons (s : S) (ss : Ss)
inductive Hs where
  | nil
  | cons (c : Nat) (i : Option Nat) (b : Ss) (hs : Hs)
end
end MP
end

section
/-! MP, part B: the evaluator. -/
set_option autoImplicit false
namespace MP
open PySem L2

structure Cls where
  name : Str
  meths : List (Str × Nat)
  props : List (Str × Nat)

def lim : Nat := 1000000

/-! ### dicts -/
section
variable {α : Type}
def lookK (kvs : List (Key × α)) (k : Key) : Option α := (kvs.find? fun kv => decide (kv.1 = k)).map (·.2)
def setK (kvs : List (Key × α)) (k : Key) (v : α) : List (Key × α) :=
  if (kvs.any fun kv => decide (kv.1 = k)) = true then kvs.map (fun kv => if kv.1 = k then (kv.1, v) else kv) else kvs ++ [(k, v)]
def merK (kvs more : List (Key × α)) : List (Key × α) := more.foldl (fun acc kv => setK acc kv.1 kv.2) kvs
def setF (f : Str) (v : α) : List (Str × α) → List (Str × α)
  | [] => [(f, v)]
  | (g, u) :: r => if g = f then (g, v) :: r else (g, u) :: setF f v r
def cut (xs : List α) (lo hi : Option Int) : List α := (xs.drop (HT.sIx xs.length 0 lo)).take (HT.sIx xs.length xs.length hi - HT.sIx xs.length 0 lo)
end
def keyV : Val → Option Key
  | .int i => some (.inl i)
  | .str x => some (.inr x)
  | _ => none
def vKey : Key → Val
  | .inl i => .int i
  | .inr x => .str x

/-! ### truth, flat values -/
def truth (v : Val) (h : Heap) : Option Bool := match v with
  | .non => some false
  | .bl b => some b
  | .int i => some (i != 0)
  | .str x => some (x.length != 0)
  | .tup xs => some (!xs.isEmpty)
  | .ref a => (match h[a]? with
    | some (_, .lst xs) => some (!xs.isEmpty)
    | some (false, .dct kvs) => some (!kvs.isEmpty)
    | _ => none)
  | _ => none
def flat : Val → Bool
  | .non | .bl _ | .int _ | .str _ => true
  | _ => false
def eqF : Val → Val → Bool
  | .non, .non => true
  | .bl a, .bl b => a == b
  | .bl a, .int b => (if a then 1 else 0) == b
  | .int a, .bl b => a == (if b then 1 else 0)
  | .int a, .int b => a == b
  | .str a, .str b => a == b
  | _, _ => false

/-! ### operators -/
def powOk (i j : Int) : Bool := decide (0 ≤ j) && decide (j ≤ 1000000) && decide (i.natAbs < 2 ^ 64)
def mulOk (i j : Int) : Bool := (decide (-(2 ^ 64) < i) && decide (i < 2 ^ 64)) || (decide (-(2 ^ 64) < j) && decide (j < 2 ^ 64))

def bop (op : Bop) (x y : Val) (h : Heap) : Rs Val := match op, x, y with
  | .add, .int i, .int j => .ok (.int (i + j)) h
  | .sub, .int i, .int j => .ok (.int (i - j)) h
  | .mul, .int i, .int j => if mulOk i j then .ok (.int (i * j)) h else .bad
  | .fdiv, .int i, .int j => if decide (0 < j) && decide (j < 1073741824) then .ok (.int (i / j)) h else .bad
  | .mod, .int i, .int j => if decide (0 < j) then .ok (.int (i % j)) h else .bad
  | .pow, .int i, .int j => if powOk i j then .ok (.int (i ^ j.toNat)) h else .bad
  | .add, .str a, .str b => if a.length + b.length ≤ lim then .ok (.str (a ++ b)) h else .bad
  | .add, .ref a, .ref b => (match h[a]?, h[b]? with
    | some (false, .lst xs), some (false, .lst ys) => if xs.length + ys.length ≤ lim then al h (.lst (xs ++ ys)) else .bad
    | _, _ => .bad)
  | .mul, .ref a, .int k => (match h[a]? with
    | some (false, .lst xs) => if 0 ≤ k ∧ k ≤ lim ∧ xs.length * k.toNat ≤ lim then al h (.lst (List.replicate k.toNat xs).flatten) else .bad
    | _ => .bad)
  | _, _, _ => .bad

/-- comparisons that call nothing -/
def cop (op : Cop) (x y : Val) (h : Heap) : Rs Val := match op with
  | .lt => (match x, y with
    | .int i, .int j => .ok (.bl (decide (i < j))) h
    | .str a, .str b => .ok (.bl (decide (a.cps.toList < b.cps.toList))) h
    | _, _ => .bad)
  | .le => (match x, y with
    | .int i, .int j => .ok (.bl (decide (i ≤ j))) h
    | _, _ => .bad)
  | .gt => (match x, y with
    | .int i, .int j => .ok (.bl (decide (j < i))) h
    | _, _ => .bad)
  | .ge => (match x, y with
    | .int i, .int j => .ok (.bl (decide (j ≤ i))) h
    | _, _ => .bad)
  | .is => (match y with
    | .non => (match x with
      | .non => .ok (.bl true) h
      | _ => .ok (.bl false) h)
    | .bl b => (match x with
      | .bl a => .ok (.bl (decide (a = b))) h
      | _ => .bad)
    | _ => .bad)
  | .isn => (match y with
    | .non => (match x with
      | .non => .ok (.bl false) h
      | _ => .ok (.bl true) h)
    | .bl b => (match x with
      | .bl a => .ok (.bl (!decide (a = b))) h
      | _ => .bad)
    | _ => .bad)
  | .in_ => (match y with
    | .tup xs => if flat x && xs.all flat then .ok (.bl (xs.any fun z => eqF z x)) h else .bad
    | .ref a => (match rd h a with
      | some (.lst xs) => if flat x && xs.all flat then .ok (.bl (xs.any fun z => eqF z x)) h else .bad
      | some (.dct kvs) => (match keyV x with
        | some k => .ok (.bl (lookK kvs k).isSome) h
        | none => .bad)
      | _ => .bad)
    | .str z => (match x with
      | .str s => (match s.cps.toList with
        | [c] => .ok (.bl (decide (c ∈ z.cps.toList))) h
        | _ => .bad)
      | _ => .bad)
    | _ => .bad)
  | .nin => (match y with
    | .tup xs => if flat x && xs.all flat then .ok (.bl (!xs.any fun z => eqF z x)) h else .bad
    | .ref a => (match rd h a with
      | some (.lst xs) => if flat x && xs.all flat then .ok (.bl (!xs.any fun z => eqF z x)) h else .bad
      | some (.dct kvs) => (match keyV x with
        | some k => .ok (.bl (!(lookK kvs k).isSome)) h
        | none => .bad)
      | _ => .bad)
    | _ => .bad)
  | _ => .bad

end MP
end

section
/-! MP, part C: how the evaluator's values and heap stand in the abstract heap of the hand layer. -/
set_option autoImplicit false
namespace MP
open PySem L2

/-- what is fixed through a law -/
structure G where
  P : Program
  w : World
  K : PySem.W.Frag
  mg : Str → Option Value
  base : PySem.Heap
  C : Nat → Addr

/-- a tuple; an empty one is a plain object -/
def Pl (K : PySem.W.Frag) (H : Hp) (a : Addr) : Prop := ∃ (o : Obj) (n : Nat), (H a = some (.frz o (.tup [])) ∨ K.lookup a = some o) ∧ o.cls = .type "tuple" ∧ o.dict = none ∧ o.data = .seq #[] n
def TupAt (K : PySem.W.Frag) (H : Hp) (a : Addr) (xs : List V) : Prop := SqT K H a xs ∧ (xs = [] → Pl K H a)
/-- a list that nobody writes: the script -/
def ScrAt (K : PySem.W.Frag) (H : Hp) (a : Addr) (ns : List Int) : Prop := (∃ o, H a = some (.frz o (.lst (ns.map V.int)))) ∨
  ∃ (o : Obj) (its : Array Value) (n : Nat), K.lookup a = some o ∧ o.cls = .type "list" ∧ o.dict = none ∧ o.data = .seq its n ∧ its.size ≤ sizeLine ∧ Vals (ns.map V.int) its.toList
theorem ScrAt.sq {K : PySem.W.Frag} {H : Hp} {a : Addr} {ns : List Int} (h : ScrAt K H a ns) : SqL K H a (ns.map V.int) := by
  rcases h with ⟨o, h⟩ | h
  · exact .inl (.inr ⟨o, h⟩)
  · exact .inr h
structure Fx (K : PySem.W.Frag) (H H' : Hp) : Prop where
  tup : ∀ a xs, TupAt K H a xs → TupAt K H' a xs
  scr : ∀ a ns, ScrAt K H a ns → ScrAt K H' a ns
mutual
def VR (g : G) (ρ : Nat → Addr) (n : Nat) (H : Hp) : Val → V → Prop
  | .non, x => x = .non
  | .bl b, x => x = .bl b
  | .int i, x => x = .int i
  | .str s, x => x = .str s ∧ s.length ≤ sizeLine
  | .tup vs, x => ∃ a xs, x = .ref a ∧ TupAt g.K H a xs ∧ VRs g ρ n H vs xs
  | .ref i, x => i < n ∧ x = .ref (ρ i)
  | .cls c, x => x = .ref (g.C c)
  | .ty t, x => x = .ty t
  | .scr ns, x => ∃ a, x = .ref a ∧ ScrAt g.K H a ns
def VRs (g : G) (ρ : Nat → Addr) (n : Nat) (H : Hp) : List Val → List V → Prop
  | [], xs => xs = []
  | v :: vs, xs => ∃ x r, xs = x :: r ∧ VR g ρ n H v x ∧ VRs g ρ n H vs r
end
def KR {κ : Type} (g : G) (ρ : Nat → Addr) (n : Nat) (H : Hp) : List (κ × Val) → List (κ × V) → Prop
  | [], xs => xs = []
  | (k, v) :: vs, xs => ∃ x r, xs = (k, x) :: r ∧ VR g ρ n H v x ∧ KR g ρ n H vs r

def KOk : Key → Prop
  | .inl _ => True
  | .inr x => x.length ≤ sizeLine
def DLen (vs : List (Key × Val)) : Prop := vs.length ≤ sizeLine ∧ ∀ p ∈ vs, KOk p.1
def OR (g : G) (ρ : Nat → Addr) (n : Nat) (H : Hp) (a : Addr) : Bool → B → Prop
  | false, .lst vs => vs.length ≤ sizeLine ∧ ∃ xs, H a = some (.lst xs) ∧ VRs g ρ n H vs xs
  | true, .lst vs => vs.length ≤ sizeLine ∧ ∃ xs, (H a = some (.lst xs) ∨ ∃ o, H a = some (.frz o (.lst xs))) ∧ VRs g ρ n H vs xs
  | false, .dct vs => DLen vs ∧ ∃ xs, H a = some (.dK xs) ∧ KR g ρ n H vs xs
  | true, .dct vs => DLen vs ∧ ∃ o xs, H a = some (.frz o (.dK xs)) ∧ KR g ρ n H vs xs
  | false, .ins c fs => ∃ dx xs, H a = some (.ins (g.C c) dx xs) ∧ KR g ρ n H fs xs
  | true, .ins _ _ => False

structure Rel (g : G) (ρ : Nat → Addr) (h : Heap) (H : Hp) : Prop where
  inj : ∀ i j, i < h.length → j < h.length → ρ i = ρ j → i = j
  obj : ∀ (i : Nat) (b : Bool) (c : B), h[i]? = some (b, c) → OR g ρ h.length H (ρ i) b c

/-- from one state to a later one -/
structure Stp (ρ ρ' : Nat → Addr) (h h' : Heap) (H H' : Hp) : Prop where
  len : h.length ≤ h'.length
  agr : ∀ i, i < h.length → ρ' i = ρ i
  new : ∀ i, h.length ≤ i → i < h'.length → H (ρ' i) = none
  kep : ∀ b, H' b = none → H b = none
  frm : ∀ b o, H b = some o → (∀ (i : Nat) (c : B), h[i]? = some (false, c) → ρ i ≠ b) → H' b = some o
  lck : ∀ (i : Nat) (c : B), h[i]? = some (true, c) → h'[i]? = some (true, c)

section
variable {g : G} {ρ ρ' ρ1 ρ2 : Nat → Addr} {n n' : Nat} {h h' h1 h2 : Heap} {H H' H1 H2 : Hp}

theorem lt_of_get {α : Type} {l : List α} {i : Nat} {a : α} (e : l[i]? = some a) : i < l.length := (List.getElem?_eq_some_iff.mp e).1

theorem Stp.refl (ρ : Nat → Addr) (h : Heap) (H : Hp) : Stp ρ ρ h h H H :=
  ⟨Nat.le_refl _, fun _ _ => rfl, fun i a b => absurd b (Nat.not_lt.mpr a), fun _ e => e, fun _ _ e _ => e, fun _ _ e => e⟩
theorem Stp.trans (a : Stp ρ ρ1 h h1 H H1) (b : Stp ρ1 ρ2 h1 h2 H1 H2) : Stp ρ ρ2 h h2 H H2 where
  len := Nat.le_trans a.len b.len
  agr := fun i hi => (b.agr i (Nat.lt_of_lt_of_le hi a.len)).trans (a.agr i hi)
  new := fun i h1' h2' => by
    by_cases hi : i < h1.length
    · rw [b.agr i hi]; exact a.new i h1' hi
    · exact a.kep _ (b.new i (by omega) h2')
  kep := fun c e => a.kep c (b.kep c e)
  frm := fun c o e hn => b.frm c o (a.frm c o e hn) fun i c' ei er => by
    by_cases hi : i < h.length
    · cases e' : h[i]? with
      | none => exact absurd (List.getElem?_eq_none_iff.mp e') (by omega)
      | some q =>
        obtain ⟨bq, cq⟩ := q
        cases bq with
        | true => rw [a.lck i cq e'] at ei; cases ei
        | false => exact hn i cq e' (by rw [← a.agr i hi]; exact er)
    · have z := a.new i (by omega) (lt_of_get ei)
      rw [er, e] at z; cases z
  lck := fun i c e => b.lck i c (a.lck i c e)

/-! ### values stay -/
theorem VRs.length : ∀ {vs : List Val} {xs : List V}, VRs g ρ n H vs xs → vs.length = xs.length
  | [], xs, e => by rw [VRs] at e; rw [e]; rfl
  | v :: vs, xs, e => by
    rw [VRs] at e
    obtain ⟨x, r, rfl, _, q⟩ := e
    rw [List.length_cons, List.length_cons, VRs.length q]

mutual
theorem VR.mono (h1 : ∀ i, i < n → ρ' i = ρ i) (h2 : n ≤ n') (h3 : Fx g.K H H') : ∀ {v : Val} {x : V}, VR g ρ n H v x → VR g ρ' n' H' v x
  | .non, _, e => by rw [VR] at *; exact e
  | .bl _, _, e => by rw [VR] at *; exact e
  | .int _, _, e => by rw [VR] at *; exact e
  | .str _, _, e => by rw [VR] at *; exact e
  | .tup vs, x, e => by
    rw [VR] at *
    obtain ⟨a, xs, e1, e2, e3⟩ := e
    exact ⟨a, xs, e1, h3.tup a xs e2, VRs.mono h1 h2 h3 e3⟩
  | .ref i, x, e => by
    rw [VR] at *
    exact ⟨Nat.lt_of_lt_of_le e.1 h2, by rw [h1 i e.1]; exact e.2⟩
  | .cls _, _, e => by rw [VR] at *; exact e
  | .ty _, _, e => by rw [VR] at *; exact e
  | .scr ns, _, e => by
    rw [VR] at *
    obtain ⟨a, e1, e2⟩ := e
    exact ⟨a, e1, h3.scr a ns e2⟩
theorem VRs.mono (h1 : ∀ i, i < n → ρ' i = ρ i) (h2 : n ≤ n') (h3 : Fx g.K H H') : ∀ {vs : List Val} {xs : List V}, VRs g ρ n H vs xs → VRs g ρ' n' H' vs xs
  | [], _, e => by rw [VRs] at *; exact e
  | v :: vs, xs, e => by
    rw [VRs] at *
    obtain ⟨x, r, e1, e2, e3⟩ := e
    exact ⟨x, r, e1, VR.mono h1 h2 h3 e2, VRs.mono h1 h2 h3 e3⟩
end
theorem KR.mono {κ : Type} (h1 : ∀ i, i < n → ρ' i = ρ i) (h2 : n ≤ n') (h3 : Fx g.K H H') : ∀ {vs : List (κ × Val)} {xs : List (κ × V)}, KR g ρ n H vs xs → KR g ρ' n' H' vs xs
  | [], _, e => by rw [KR] at *; exact e
  | (k, v) :: vs, xs, e => by
    rw [KR] at *
    obtain ⟨x, r, e1, e2, e3⟩ := e
    exact ⟨x, r, e1, VR.mono h1 h2 h3 e2, KR.mono h1 h2 h3 e3⟩

/-- an unlocked cell holds no tuple, nothing frozen -/
theorem Rel.plain (r : Rel g ρ h H) {i : Nat} {c : B} (e : h[i]? = some (false, c)) : (∃ xs, H (ρ i) = some (.lst xs)) ∨ (∃ xs, H (ρ i) = some (.dK xs)) ∨ ∃ C dx xs, H (ρ i) = some (.ins C dx xs) := by
  have q := r.obj i false c e
  cases c with
  | lst vs => obtain ⟨_, xs, e, _⟩ := q; exact .inl ⟨xs, e⟩
  | dct vs => obtain ⟨_, xs, e, _⟩ := q; exact .inr (.inl ⟨xs, e⟩)
  | ins c fs => obtain ⟨dx, xs, e, _⟩ := q; exact .inr (.inr ⟨_, dx, xs, e⟩)
theorem Rel.trk (r : Rel g ρ h H) {i : Nat} {b : Bool} {c : B} (e : h[i]? = some (b, c)) : ∃ o, H (ρ i) = some o := by
  have q := r.obj i b c e
  cases b <;> cases c
  · obtain ⟨_, xs, e, _⟩ := q; exact ⟨_, e⟩
  · obtain ⟨_, xs, e, _⟩ := q; exact ⟨_, e⟩
  · obtain ⟨_, xs, e, _⟩ := q; exact ⟨_, e⟩
  · obtain ⟨_, xs, e | ⟨_, e⟩, _⟩ := q <;> exact ⟨_, e⟩
  · obtain ⟨_, _, xs, e, _⟩ := q; exact ⟨_, e⟩
  · exact q.elim
theorem Stp.seqT (r : Rel g ρ h H) (s : Stp ρ ρ' h h' H H') : Fx g.K H H' := by
  have keep : ∀ (a : Addr) o, H a = .some o → (∀ ys, o ≠ .lst ys) → (∀ ys, o ≠ .dK ys) → (∀ C dx ys, o ≠ .ins C dx ys) → H' a = .some o := fun a o eo n1 n2 n3 => s.frm a o eo fun i c ei er => by
    rcases r.plain ei with ⟨ys, z⟩ | ⟨ys, z⟩ | ⟨C, dx, ys, z⟩ <;> rw [er, eo] at z <;> cases z
    · exact n1 _ rfl
    · exact n2 _ rfl
    · exact n3 _ _ _ rfl
  refine ⟨fun a xs ⟨e, pe⟩ => ?_, fun a ns e => ?_⟩
  case refine_2 =>
    rcases e with ⟨o, e⟩ | e
    · exact .inl ⟨o, keep a _ e (fun _ z => nomatch z) (fun _ z => nomatch z) fun _ _ _ z => nomatch z⟩
    · exact .inr e
  refine ⟨?_, fun z => by
    obtain ⟨o, n, q | q, rest⟩ := pe z
    · exact ⟨o, n, .inl (keep a _ q (fun _ z => nomatch z) (fun _ z => nomatch z) fun _ _ _ z => nomatch z), rest⟩
    · exact ⟨o, n, .inr q, rest⟩⟩
  rcases e with (e | ⟨o, e⟩) | e
  · exact .inl (.inl (keep a _ e (fun _ z => nomatch z) (fun _ z => nomatch z) fun _ _ _ z => nomatch z))
  · exact .inl (.inr ⟨o, keep a _ e (fun _ z => nomatch z) (fun _ z => nomatch z) fun _ _ _ z => nomatch z⟩)
  · exact .inr e
theorem VR.step (r : Rel g ρ h H) (s : Stp ρ ρ' h h' H H') {v : Val} {x : V} (e : VR g ρ h.length H v x) : VR g ρ' h'.length H' v x := VR.mono s.agr s.len (s.seqT r) e
theorem VRs.step (r : Rel g ρ h H) (s : Stp ρ ρ' h h' H H') {v : List Val} {x : List V} (e : VRs g ρ h.length H v x) : VRs g ρ' h'.length H' v x := VRs.mono s.agr s.len (s.seqT r) e
theorem KR.step {κ : Type} (r : Rel g ρ h H) (s : Stp ρ ρ' h h' H H') {v : List (κ × Val)} {x : List (κ × V)} (e : KR g ρ h.length H v x) : KR g ρ' h'.length H' v x := KR.mono s.agr s.len (s.seqT r) e
end
end MP
end

section
/-! MP, part D: judgements and the first constructs. -/
set_option autoImplicit false
set_option linter.all false
namespace MP
open PySem L2

/-! ### the layer's judgements by their weakest readings -/
abbrev SE (X : Cx) (e : Expr) : TE := fun σ H Q => ∀ (pins : List (Addr × Obj)) (s : Shared), Inv X pins σ H s → wpAny (model X.prog X.w) X.A (PySem.eval e X.env) (EP X pins σ Q) X.xe s
theorem self_e (X : Cx) (e : Expr) : PE X e (SE X e) := ⟨fun pins s σ H Q I h => h pins s I⟩
abbrev STt (X : Cx) (e : Expr) : TT := fun σ H Q => ∀ (pins : List (Addr × Obj)) (s : Shared), Inv X pins σ H s → wpAny (model X.prog X.w) X.A (PySem.isTrue e X.env (PySem.eval e X.env)) (TP X pins σ Q) X.xe s
theorem self_t (X : Cx) (e : Expr) : PT X e (STt X e) := ⟨fun pins s σ H Q I h => h pins s I⟩
abbrev SA (X : Cx) (es : List Expr) : TA := fun σ H Q => ∀ (pos : Pos) (pins : List (Addr × Obj)) (s : Shared), Inv X pins σ H s → wpAny (model X.prog X.w) X.A (spliced (backTo pos (starEach es X.env))) (AP X pins σ Q) X.xe s
theorem self_a (X : Cx) (es : List Expr) : PA X es (SA X es) := ⟨fun pos pins s σ H Q I h => h pos pins s I⟩
abbrev SSt (X : Cx) (st : Stmt) : TS := fun D σ H => ∀ (pins : List (Addr × Obj)) (s : Shared), Inv X pins σ H s → wpAny (model X.prog X.w) X.A (exec st X.env) (SP X pins D) X.xe s
theorem self_s (X : Cx) (st : Stmt) : PS X st (SSt X st) := ⟨fun pins s σ H D I h => h pins s I⟩
abbrev SSs (X : Cx) (st : List Stmt) : TS := fun D σ H => ∀ (pins : List (Addr × Obj)) (s : Shared), Inv X pins σ H s → wpAny (model X.prog X.w) X.A (execs st X.env) (SP X pins D) X.xe s
theorem self_ss (X : Cx) (st : List Stmt) : PSs X st (SSs X st) := ⟨fun pins s σ H D I h => h pins s I⟩
abbrev SG (X : Cx) (t : Expr) : TG := fun v σ H Q => ∀ (pins : List (Addr × Obj)) (s : Shared) (u : Value), Inv X pins σ H s → RelV v u → wpAny (model X.prog X.w) X.A (assign t X.env u) (fun _ s' => ∃ σ' H', Inv X pins σ' H' s' ∧ Q σ' H') X.xe s
theorem self_g (X : Cx) (t : Expr) : PG X t (SG X t) := ⟨fun pins s σ H v u Q I r h => h pins s u I r⟩
abbrev SI (X : Cx) (tg it : Expr) : TI := fun σ H R => ∀ (pins : List (Addr × Obj)) (s : Shared), Inv X pins σ H s →
    wpAny (model X.prog X.w) X.A (PySem.eval it X.env) (fun v s1 => wpAny (model X.prog X.w) X.A (pyIter v) (PIE X pins σ tg R) X.xe s1) X.xe s
theorem self_i (X : Cx) (tg it : Expr) : PI X tg it (SI X tg it) := ⟨fun pins s σ H R I h => h pins s I⟩
theorem _root_.L2.PE.se {X : Cx} {e : Expr} {t : TE} (h : PE X e t) {σ : St} {H : Hp} {Q : VK} (q : t σ H Q) : SE X e σ H Q := fun pins s I => h.run pins s σ H Q I q
theorem _root_.L2.PT.se {X : Cx} {e : Expr} {t : TT} (h : PT X e t) {σ : St} {H : Hp} {Q : Bool → Hp → Prop} (q : t σ H Q) : STt X e σ H Q := fun pins s I => h.run pins s σ H Q I q
theorem _root_.L2.PA.se {X : Cx} {e : List Expr} {t : TA} (h : PA X e t) {σ : St} {H : Hp} {Q : List V → Hp → Prop} (q : t σ H Q) : SA X e σ H Q := fun pos pins s I => h.run pos pins s σ H Q I q
theorem _root_.L2.PS.se {X : Cx} {e : Stmt} {t : TS} (h : PS X e t) {σ : St} {H : Hp} {D : Ends} (q : t D σ H) : SSt X e D σ H := fun pins s I => h.run pins s σ H D I q
theorem _root_.L2.PSs.se {X : Cx} {e : List Stmt} {t : TS} (h : PSs X e t) {σ : St} {H : Hp} {D : Ends} (q : t D σ H) : SSs X e D σ H := fun pins s I => h.run pins s σ H D I q
theorem _root_.L2.PG.se {X : Cx} {e : Expr} {t : TG} (h : PG X e t) {v : V} {σ : St} {H : Hp} {Q : St → Hp → Prop} (q : t v σ H Q) : SG X e v σ H Q := fun pins s u I r => h.run pins s σ H v u Q I r q
theorem _root_.L2.PI.se {X : Cx} {tg it : Expr} {t : TI} (h : PI X tg it t) {σ : St} {H : Hp} {R : L2.It → Hp → Prop} (q : t σ H R) : SI X tg it σ H R := fun pins s I => h.run pins s σ H R I q

/-! ### what follows a result -/
def QR {α β : Type} (g : G) (T : (Nat → Addr) → Nat → Hp → α → β → Prop) (W : WX) (ρ : Nat → Addr) (h : Heap) (H : Hp) (σ : L2.St) (r : Rs α) (Q : β → Hp → Prop) : Prop := match r with
  | .ok a h' => ∀ ρ' H' b, Stp ρ ρ' h h' H H' → Rel g ρ' h' H' → T ρ' h'.length H' a b → Q b H'
  | .ex c fs h' => ∀ ρ' H' d xs, Stp ρ ρ' h h' H H' → Rel g ρ' h' H' → H' d = some (.xd xs) → KR g ρ' h'.length H' fs xs → W (.ref (g.C c)) (some d) σ H'
  | .bad => False

section
variable {g : G} {W : WX} {ρ ρ1 : Nat → Addr} {h h1 : Heap} {H H1 : Hp} {σ : L2.St} {α β γ δ : Type}
theorem QR.imp {T : (Nat → Addr) → Nat → Hp → α → β → Prop} {r : Rs α} {Q Q' : β → Hp → Prop} (q : QR g T W ρ h H σ r Q) (i : ∀ b H, Q b H → Q' b H) : QR g T W ρ h H σ r Q' := by
  cases r with
  | ok a h' => exact fun ρ' H' b s r t => i _ _ (q ρ' H' b s r t)
  | ex c fs h' => exact q
  | bad => exact q
theorem QR.step {T : (Nat → Addr) → Nat → Hp → α → β → Prop} {r : Rs α} {Q : β → Hp → Prop} (s : Stp ρ ρ1 h h1 H H1) (q : QR g T W ρ h H σ r Q) : QR g T W ρ1 h1 H1 σ r Q := by
  cases r with
  | ok a h' => exact fun ρ' H' b s' r t => q ρ' H' b (s.trans s') r t
  | ex c fs h' => exact fun ρ' H' d xs s' r t => q ρ' H' d xs (s.trans s') r t
  | bad => exact q
/-- first r, then f -/
theorem QR.bind {T : (Nat → Addr) → Nat → Hp → α → β → Prop} {T2 : (Nat → Addr) → Nat → Hp → γ → δ → Prop} {r : Rs α} {f : α → Heap → Rs γ} {Q : δ → Hp → Prop} (q : QR g T2 W ρ h H σ (r.bind f) Q) :
    QR g T W ρ h H σ r fun b H1 => ∃ ρ1 h1 a, Stp ρ ρ1 h h1 H H1 ∧ Rel g ρ1 h1 H1 ∧ T ρ1 h1.length H1 a b ∧ r = .ok a h1 ∧ QR g T2 W ρ1 h1 H1 σ (f a h1) Q := by
  cases r with
  | ok a h' => exact fun ρ' H' b s r t => ⟨ρ', h', a, s, r, t, rfl, QR.step s q⟩
  | ex c fs h' => exact q
  | bad => exact q
theorem QR.ok {T : (Nat → Addr) → Nat → Hp → α → β → Prop} {a : α} {b : β} {Q : β → Hp → Prop} (r : Rel g ρ h H) (t : T ρ h.length H a b) (q : QR g T W ρ h H σ (.ok a h) Q) : Q b H := q ρ H b (Stp.refl ..) r t
end

/-- slots -/
structure ER (g : G) (ρ : Nat → Addr) (n : Nat) (H : Hp) (env : Env) (σ : L2.St) : Prop where
  len : env.length = σ.length
  val : ∀ (i : Nat) (v : Val), env[i]? = some (some v) → ∃ x, σ[i]? = some (some x) ∧ VR g ρ n H v x
theorem ER.step {g : G} {ρ ρ' : Nat → Addr} {h h' : Heap} {H H' : Hp} {env : Env} {σ : L2.St} (e : ER g ρ h.length H env σ) (r : Rel g ρ h H) (s : Stp ρ ρ' h h' H H') : ER g ρ' h'.length H' env σ :=
  ⟨e.len, fun i v ev => let ⟨x, a, b⟩ := e.val i v ev; ⟨x, a, b.step r s⟩⟩

/-- what a scope says is so at hand (a captured name is a cell there) -/
def ScR (s sc : Scope) : Prop := ∀ x k, sc.names.lookup x = some k → s.names.lookup x = some k ∨ (k = .free ∧ s.names.lookup x = some .cell)
theorem ScR.refl (s : Scope) : ScR s s := fun _ _ e => .inl e
theorem ScR.vis {s sc : Scope} (r : ScR s sc) {x : Str} (v : Vis sc x) : Vis s x := by
  rcases v with v | v | v
  · rcases r x _ v with e | ⟨e, _⟩
    · exact .inl e
    · cases e
  · rcases r x _ v with e | ⟨e, _⟩
    · exact .inr (.inl e)
    · cases e
  · rcases r x _ v with e | ⟨_, e⟩
    · exact .inr (.inr e)
    · exact .inr (.inl e)
theorem ScR.loc {s sc : Scope} (r : ScR s sc) {x : Str} (v : L2.Loc sc x) : L2.Loc s x := by
  rcases v with v | v
  · rcases r x _ v with e | ⟨e, _⟩
    · exact .inl e
    · cases e
  · rcases r x _ v with e | ⟨e, _⟩
    · exact .inr e
    · cases e
theorem ScR.same {s sc : Scope} (r : ScR s sc) {x : Str} {k : NameKind} (hk : k ≠ .free) (v : sc.names.lookup x = some k) : s.names.lookup x = some k := by
  rcases r x _ v with e | ⟨e, _⟩
  · exact e
  · exact absurd e hk
structure Good (g : G) (X : Cx) (N : List Str) (sc : Scope) (W : WX) (lv : Nat) : Prop where
  hP : X.prog = g.P
  hw : X.w = g.w
  hK : X.K = g.K
  hmg : X.mg = g.mg
  hbase : X.base = g.base
  hN : X.N = N
  nd : X.N.Nodup
  hsc : ScR X.env.scope sc
  calm : X.calm = true
  room : Room lv X.A
  tk : Takes X W
  pown : PassesOwn (model X.prog X.w) X.A X.env X.xe
  cell : ∀ x, sc.names.lookup x = some .cell → X.fn x = true

abbrev Fe := Env → Heap → Rs Val
def SoE (g : G) (lv : Nat) (N : List Str) (sc : Scope) (f : Fe) (e : Expr) : Prop :=
  ∀ (X : Cx) (W : WX), Good g X N sc W lv → ∀ (ρ : Nat → Addr) (h : Heap) (H : Hp) (env : Env) (σ : L2.St) (Q : VK), Rel g ρ h H → ER g ρ h.length H env σ → QR g (VR g) W ρ h H σ (f env h) Q → SE X e σ H Q
def SoT (g : G) (lv : Nat) (N : List Str) (sc : Scope) (f : Env → Heap → Rs Bool) (e : Expr) : Prop :=
  ∀ (X : Cx) (W : WX), Good g X N sc W lv → ∀ (ρ : Nat → Addr) (h : Heap) (H : Hp) (env : Env) (σ : L2.St) (Q : Bool → Hp → Prop), Rel g ρ h H → ER g ρ h.length H env σ → QR g (fun _ _ _ a b => a = b) W ρ h H σ (f env h) Q → STt X e σ H Q
def SoA (g : G) (lv : Nat) (N : List Str) (sc : Scope) (f : Env → Heap → Rs (List Val)) (e : List Expr) : Prop :=
  ∀ (X : Cx) (W : WX), Good g X N sc W lv → ∀ (ρ : Nat → Addr) (h : Heap) (H : Hp) (env : Env) (σ : L2.St) (Q : List V → Hp → Prop), Rel g ρ h H → ER g ρ h.length H env σ → QR g (VRs g) W ρ h H σ (f env h) Q → SA X e σ H Q

section
variable {g : G} {lv : Nat} {N : List Str} {sc : Scope}

/-! ### names and constants -/
theorem so_var {i : Nat} {x : Str} {pos : Pos} (hN : N[i]? = some x) (hv : Vis sc x) (hd : (x == ("__debug__" : Str)) = false) (hcd : (x == ("__classdict__" : Str)) = false) :
    SoE g lv N sc (fun env h => opt (env[i]?.join) h) (.Name x pos) := by
  intro X W G ρ h H env σ Q r e q
  refine (pe_var (i := i) (by rw [G.hN]; exact hN) (G.hsc.vis hv) hd hcd).se ?_
  cases z : env[i]? with
  | none => simp only [z] at q; exact q.elim
  | some o =>
    cases o with
    | none => simp only [z] at q; exact q.elim
    | some v =>
      simp only [z] at q
      obtain ⟨y, e1, e2⟩ := e.val i v z
      exact ⟨y, e1, QR.ok (T := VR g) (a := v) r e2 q⟩
theorem so_int {i : Int} {j : Nat} {pos : Pos} : SoE g lv N sc (fun _ h => .ok (.int i) h) (.Constant (.int i) j pos) := by
  intro X W G ρ h H env σ Q r e q
  exact pe_int.se (QR.ok (T := VR g) r (by rw [VR]) q)
theorem so_bl {b : Bool} {j : Nat} {pos : Pos} : SoE g lv N sc (fun _ h => .ok (.bl b) h) (.Constant (.bool b) j pos) := by
  intro X W G ρ h H env σ Q r e q
  exact pe_bl.se (QR.ok (T := VR g) r (by rw [VR]) q)
theorem so_non {j : Nat} {pos : Pos} : SoE g lv N sc (fun _ h => .ok .non h) (.Constant .none j pos) := by
  intro X W G ρ h H env σ Q r e q
  exact pe_non.se (QR.ok (T := VR g) r (by rw [VR]) q)
theorem so_str {x : Str} {j : Nat} {pos : Pos} (hx : x.length ≤ sizeLine) : SoE g lv N sc (fun _ h => .ok (.str x) h) (.Constant (.str x) j pos) := by
  intro X W G ρ h H env σ Q r e q
  exact pe_str.se (QR.ok (T := VR g) r (by rw [VR]; exact ⟨rfl, hx⟩) q)

/-! ### two expressions, then an operation on values -/
abbrev SOp (X : Cx) (f : Value → Value → Sem Value) : R2 := fun x y H Q => ∀ (pins : List (Addr × Obj)) (s : Shared) (σ : L2.St) (v u : Value), Inv X pins σ H s → RelV x v → RelV y u → wpAny (model X.prog X.w) X.A (f v u) (EP X pins σ Q) X.xe s
theorem self_op (X : Cx) (f : Value → Value → Sem Value) : OpR X f (SOp X f) := fun pins s σ H x y v u Q I rx ry h => h pins s σ v u I rx ry
theorem _root_.L2.OpR.se {X : Cx} {f : Value → Value → Sem Value} {r : R2} (ho : OpR X f r) {x y : V} {H : Hp} {Q : VK} (h : r x y H Q) : SOp X f x y H Q := fun pins s σ v u I rx ry => ho pins s σ H x y v u Q I rx ry h
def SoO (g : G) (lv : Nat) (f : Value → Value → Sem Value) (op : Val → Val → Heap → Rs Val) : Prop :=
  ∀ (X : Cx) (W : WX) (N : List Str) (sc : Scope), Good g X N sc W lv → ∀ (ρ : Nat → Addr) (h : Heap) (H : Hp) (σ : L2.St) (x y : Val) (vx vy : V) (Q : VK), Rel g ρ h H → VR g ρ h.length H x vx → VR g ρ h.length H y vy → QR g (VR g) W ρ h H σ (op x y h) Q → SOp X f vx vy H Q
theorem QR.not_bad {α β : Type} {T : (Nat → Addr) → Nat → Hp → α → β → Prop} {W : WX} {ρ : Nat → Addr} {h : Heap} {H : Hp} {σ : L2.St} {r : Rs α} {Q : β → Hp → Prop} (q : QR g T W ρ h H σ r Q) : r ≠ .bad := by
  rintro rfl; exact q
theorem so_bin {op : Operator} {fo : Val → Val → Heap → Rs Val} {fa fb : Fe} {ea eb : Expr} {pos : Pos} (ho : SoO g lv (binaryOp op) fo) (ha : SoE g lv N sc fa ea) (hb : SoE g lv N sc fb eb) :
    SoE g lv N sc (fun env h => (fa env h).bind fun x h1 => (fb env h1).bind fun y h2 => fo x y h2) (.BinOp ea op eb pos) := by
  intro X W G ρ h H env σ Q r e q
  refine (pe_op (self_op X _) (self_e X ea) (self_e X eb)).se ?_
  refine ha X W G ρ h H env σ _ r e (QR.imp (QR.bind q) fun vx H1 ⟨ρ1, h1, x, s1, r1, t1, _, q1⟩ => ?_)
  refine hb X W G ρ1 h1 H1 env σ _ r1 (e.step r s1) (QR.imp (QR.bind q1) fun vy H2 ⟨ρ2, h2, y, s2, r2, t2, _, q2⟩ => ?_)
  exact ho X W N sc G ρ2 h2 H2 σ x y vx vy Q r2 (t1.step r1 s2) t2 q2
theorem so_cmp {op : CmpOp} {fo : Val → Val → Heap → Rs Val} {fa fb : Fe} {ea eb : Expr} {pos : Pos} (hm : behindInMarks op eb = false) (ho : SoO g lv (compareOp op) fo) (ha : SoE g lv N sc fa ea) (hb : SoE g lv N sc fb eb) :
    SoE g lv N sc (fun env h => (fa env h).bind fun x h1 => (fb env h1).bind fun y h2 => fo x y h2) (.Compare ea [op] [eb] pos) := by
  intro X W G ρ h H env σ Q r e q
  refine (pe_cmpR (self_op X _) (self_e X ea) (self_e X eb) hm).se ?_
  refine ha X W G ρ h H env σ _ r e (QR.imp (QR.bind q) fun vx H1 ⟨ρ1, h1, x, s1, r1, t1, _, q1⟩ => ?_)
  refine hb X W G ρ1 h1 H1 env σ _ r1 (e.step r s1) (QR.imp (QR.bind q1) fun vy H2 ⟨ρ2, h2, y, s2, r2, t2, _, q2⟩ => ?_)
  exact ho X W N sc G ρ2 h2 H2 σ x y vx vy Q r2 (t1.step r1 s2) t2 q2

/-! ### truth -/
theorem VRs.isEmpty {ρ : Nat → Addr} {n : Nat} {H : Hp} {vs : List Val} {xs : List V} (e : VRs g ρ n H vs xs) : vs.isEmpty = xs.isEmpty := by
  have := e.length
  cases vs <;> cases xs <;> simp_all
theorem KR.length {κ : Type} {ρ : Nat → Addr} {n : Nat} {H : Hp} : ∀ {vs : List (κ × Val)} {xs : List (κ × V)}, KR g ρ n H vs xs → vs.length = xs.length
  | [], xs, e => by rw [KR] at e; rw [e]; rfl
  | (k, v) :: vs, xs, e => by
    rw [KR] at e
    obtain ⟨x, r, rfl, _, q⟩ := e
    rw [List.length_cons, List.length_cons, KR.length q]
/-- a readable list -/
theorem Rel.lst {ρ : Nat → Addr} {h : Heap} {H : Hp} (r : Rel g ρ h H) {i : Nat} {vs : List Val} (e : rd h i = some (.lst vs)) : ∃ xs, SqL g.K H (ρ i) xs ∧ VRs g ρ h.length H vs xs ∧ vs.length ≤ sizeLine := by
  unfold rd at e
  cases z : h[i]? with
  | none => rw [z] at e; cases e
  | some c =>
    obtain ⟨b, c⟩ := c
    rw [z] at e
    cases (show c = .lst vs from Option.some.inj e)
    have q := r.obj i b _ z
    cases b with
    | false =>
      obtain ⟨hl, xs, e1, e2⟩ := q
      exact ⟨xs, .inl (.inl e1), e2, hl⟩
    | true =>
      obtain ⟨hl, xs, e1, e2⟩ := q
      exact ⟨xs, .inl e1, e2, hl⟩
/-- a readable dict -/
theorem Rel.dct {ρ : Nat → Addr} {h : Heap} {H : Hp} (r : Rel g ρ h H) {i : Nat} {vs : List (Key × Val)} (e : rd h i = some (.dct vs)) : ∃ xs, Rd H (ρ i) (.dK xs) ∧ KR g ρ h.length H vs xs ∧ DLen vs := by
  unfold rd at e
  cases z : h[i]? with
  | none => rw [z] at e; cases e
  | some c =>
    obtain ⟨b, c⟩ := c
    rw [z] at e
    cases (show c = .dct vs from Option.some.inj e)
    have q := r.obj i b _ z
    cases b with
    | false =>
      obtain ⟨hl, xs, e1, e2⟩ := q
      exact ⟨xs, .inl e1, e2, hl⟩
    | true =>
      obtain ⟨hl, o, xs, e1, e2⟩ := q
      exact ⟨xs, .inr ⟨o, e1⟩, e2, hl⟩
theorem Rel.ins {ρ : Nat → Addr} {h : Heap} {H : Hp} (r : Rel g ρ h H) {i : Nat} {c : Nat} {fs : List (Str × Val)} (e : rd h i = some (.ins c fs)) : ∃ dx xs, H (ρ i) = some (.ins (g.C c) dx xs) ∧ KR g ρ h.length H fs xs := by
  unfold rd at e
  cases z : h[i]? with
  | none => rw [z] at e; cases e
  | some q =>
    obtain ⟨b, q⟩ := q
    rw [z] at e
    cases (show q = .ins c fs from Option.some.inj e)
    have q := r.obj i b _ z
    cases b with
    | false => exact q
    | true => exact q.elim
end
end MP
end

section
/-! MP, part E: new objects, writes; truth, and, or, not; tuples, lists, arguments. -/
set_option autoImplicit false
set_option linter.all false
namespace MP
open PySem L2

section
variable {g : G} {ρ ρ' : Nat → Addr} {n n' : Nat} {h h' : Heap} {H H' : Hp}

theorem OR.mono (h1 : ∀ i, i < n → ρ' i = ρ i) (h2 : n ≤ n') (h3 : Fx g.K H H') {a : Addr} {b : Bool} {c : B} (e : OR g ρ n H a b c) (ha : H' a = H a) : OR g ρ' n' H' a b c := by
  cases b <;> cases c
  · obtain ⟨z, xs, e1, e2⟩ := e; exact ⟨z, xs, by rw [ha]; exact e1, e2.mono h1 h2 h3⟩
  · obtain ⟨z, xs, e1, e2⟩ := e; exact ⟨z, xs, by rw [ha]; exact e1, e2.mono h1 h2 h3⟩
  · obtain ⟨dx, xs, e1, e2⟩ := e; exact ⟨dx, xs, by rw [ha]; exact e1, e2.mono h1 h2 h3⟩
  · obtain ⟨z, xs, e1, e2⟩ := e; exact ⟨z, xs, by rw [ha]; exact e1, e2.mono h1 h2 h3⟩
  · obtain ⟨z, o, xs, e1, e2⟩ := e; exact ⟨z, o, xs, by rw [ha]; exact e1, e2.mono h1 h2 h3⟩
  · exact e.elim

/-- a new object that no cell holds (a tuple; the own dict of an instance) -/
theorem Stp.fresh (r : Rel g ρ h H) {p : Addr} {o : HO} (hp : H p = none) : Stp ρ ρ h h H (upd H p o) := by
  refine ⟨Nat.le_refl _, fun _ _ => rfl, fun i a b => absurd b (Nat.not_lt.mpr a), fun b e => ?_, fun b u e _ => ?_, fun _ _ e => e⟩
  · by_cases hb : b = p
    · rw [hb]; exact hp
    · rw [upd_ne hb] at e; exact e
  · rw [upd_ne (ne_of_none e hp)]; exact e
theorem Rel.fresh (r : Rel g ρ h H) {p : Addr} {o : HO} (hp : H p = none) : Rel g ρ h (upd H p o) := by
  refine ⟨r.inj, fun i b c e => ?_⟩
  obtain ⟨u, hu⟩ := r.trk e
  exact (r.obj i b c e).mono (fun _ _ => rfl) (Nat.le_refl _) ((Stp.fresh r hp).seqT r) (upd_ne (ne_of_none hu hp))

def ext (ρ : Nat → Addr) (n : Nat) (p : Addr) : Nat → Addr := fun i => if i = n then p else ρ i
theorem ext_new (ρ : Nat → Addr) (n : Nat) (p : Addr) : ext ρ n p n = p := if_pos rfl
theorem ext_old (ρ : Nat → Addr) {n i : Nat} (p : Addr) (hi : i < n) : ext ρ n p i = ρ i := if_neg (by omega)

/-- a new cell -/
theorem Stp.alloc (r : Rel g ρ h H) {p : Addr} {o : HO} {c : B} (hp : H p = none) : Stp ρ (ext ρ h.length p) h (h ++ [(false, c)]) H (upd H p o) := by
  refine ⟨by simp, fun i hi => ext_old ρ p hi, fun i a b => ?_, fun b e => ?_, fun b u e _ => ?_, fun i c e => ?_⟩
  · have : i = h.length := by simp at b; omega
    rw [this, ext_new]; exact hp
  · by_cases hb : b = p
    · rw [hb]; exact hp
    · rw [upd_ne hb] at e; exact e
  · rw [upd_ne (ne_of_none e hp)]; exact e
  · rw [List.getElem?_append_left (lt_of_get e)]; exact e
theorem Rel.alloc (r : Rel g ρ h H) {p : Addr} {o : HO} {c : B} (hp : H p = none) (ho : OR g (ext ρ h.length p) (h.length + 1) (upd H p o) p false c) : Rel g (ext ρ h.length p) (h ++ [(false, c)]) (upd H p o) := by
  have np : ∀ i, i < h.length → ρ i ≠ p := fun i hi => by
    cases z : h[i]? with
    | none => exact absurd (List.getElem?_eq_none_iff.mp z) (by omega)
    | some q =>
      obtain ⟨u, hu⟩ := r.trk (b := q.1) (c := q.2) z
      exact ne_of_none hu hp
  refine ⟨fun i j hi hj e => ?_, fun i b c' e => ?_⟩
  · rw [List.length_append, List.length_singleton] at hi hj
    by_cases h1 : i = h.length
    · by_cases h2 : j = h.length
      · rw [h1, h2]
      · rw [h1, ext_new, ext_old ρ p (by omega)] at e
        exact absurd e.symm (np j (by omega))
    · by_cases h2 : j = h.length
      · rw [h2, ext_new, ext_old ρ p (by omega)] at e
        exact absurd e (np i (by omega))
      · rw [ext_old ρ p (by omega), ext_old ρ p (by omega)] at e
        exact r.inj i j (by omega) (by omega) e
  · rw [List.length_append, List.length_singleton]
    by_cases h1 : i < h.length
    · rw [List.getElem?_append_left h1] at e
      obtain ⟨u, hu⟩ := r.trk e
      rw [ext_old ρ p h1]
      exact (r.obj i b c' e).mono (fun j hj => ext_old ρ p hj) (by omega) ((Stp.fresh r hp).seqT r) (upd_ne (ne_of_none hu hp))
    · have hl := lt_of_get e
      rw [List.length_append, List.length_singleton] at hl
      have : i = h.length := by omega
      subst this
      rw [List.getElem?_append_right (Nat.le_refl _), Nat.sub_self] at e
      cases e
      rw [ext_new]
      exact ho

/-- a cell is written -/
theorem set_get {α : Type} {l : List α} {i j : Nat} {a b : α} (e : (l.set i a)[j]? = some b) : (j = i ∧ b = a) ∨ (j ≠ i ∧ l[j]? = some b) := by
  by_cases hj : j = i
  · subst hj
    have hl := lt_of_get e
    rw [List.length_set] at hl
    rw [List.getElem?_set_self hl] at e
    cases e
    exact .inl ⟨rfl, rfl⟩
  · rw [List.getElem?_set_ne (Ne.symm hj)] at e
    exact .inr ⟨hj, e⟩
theorem Stp.write (r : Rel g ρ h H) {i : Nat} {c c' : B} {o : HO} (e : h[i]? = some (false, c)) : Stp ρ ρ h (h.set i (false, c')) H (upd H (ρ i) o) := by
  obtain ⟨u, hu⟩ := r.trk e
  refine ⟨by simp, fun _ _ => rfl, fun j a b => absurd b (by simp; omega), fun b e' => ?_, fun b v e' hn => ?_, fun j c'' e' => ?_⟩
  · by_cases hb : b = ρ i
    · rw [hb, upd_same] at e'; cases e'
    · rw [upd_ne hb] at e'; exact e'
  · rw [upd_ne (fun z => hn i c e z.symm)]; exact e'
  · have : j ≠ i := by rintro rfl; rw [e] at e'; cases e'
    rw [List.getElem?_set_ne (Ne.symm this)]; exact e'
theorem Rel.write (r : Rel g ρ h H) {i : Nat} {c c' : B} {o : HO} (e : h[i]? = some (false, c)) (ho : OR g ρ h.length (upd H (ρ i) o) (ρ i) false c') : Rel g ρ (h.set i (false, c')) (upd H (ρ i) o) := by
  refine ⟨fun a b ha hb => r.inj a b (by simpa using ha) (by simpa using hb), fun j b c'' e' => ?_⟩
  rw [List.length_set]
  rcases set_get e' with ⟨rfl, z⟩ | ⟨hj, z⟩
  · cases z; exact ho
  · refine (r.obj j b c'' z).mono (fun _ _ => rfl) (Nat.le_refl _) ((Stp.write (c' := c') r e).seqT r) (upd_ne fun q => hj (r.inj j i (lt_of_get z) (lt_of_get e) q))
end

/-! ### truth -/
section
variable {g : G} {lv : Nat} {N : List Str} {sc : Scope}
theorem truth_ok {ρ : Nat → Addr} {h : Heap} {H : Hp} (r : Rel g ρ h H) {v : Val} {x : V} (t : VR g ρ h.length H v x) {k : Bool} (e : truth v h = some k) : TruV g.K x H k := by
  cases v with
  | non => rw [VR] at t; subst t; cases e; rfl
  | bl b => rw [VR] at t; subst t; cases e; rfl
  | int i => rw [VR] at t; subst t; cases e; rfl
  | str s =>
    rw [VR] at t
    obtain ⟨rfl, hs⟩ := t
    cases e
    refine ⟨hs, ?_⟩
    show (s.length != 0) = ((s.length : Int) != 0)
    cases hz : s.length with
    | zero => rfl
    | succ m => simp; omega
  | tup vs =>
    rw [VR] at t
    obtain ⟨a, xs, rfl, hq, hv⟩ := t
    cases e
    exact .inr (.inl ⟨xs, hq.1, by rw [hv.isEmpty]⟩)
  | ref i =>
    rw [VR] at t
    obtain ⟨_, rfl⟩ := t
    unfold truth at e
    cases z : h[i]? with
    | none => simp only [z] at e; cases e
    | some c =>
      obtain ⟨b, c⟩ := c
      cases c with
      | lst vs =>
        simp only [z] at e
        cases e
        obtain ⟨xs, hq, hv, _⟩ := r.lst (i := i) (vs := vs) (by unfold rd; rw [z]; rfl)
        exact .inl ⟨xs, hq, by rw [hv.isEmpty]⟩
      | dct kvs =>
        cases b with
        | true => simp only [z] at e; cases e
        | false =>
          simp only [z] at e
          cases e
          obtain ⟨_, xs, e1, e2⟩ := r.obj i false _ z
          refine .inr (.inr ⟨xs, e1, ?_⟩)
          have := e2.length
          cases kvs <;> cases xs <;> simp_all
      | ins c fs => simp only [z] at e; cases e
  | cls c => cases e
  | ty n => cases e
  | scr ns => cases e

def eTru (f : Fe) (env : Env) (h : Heap) : Rs Bool := (f env h).bind fun v h1 => opt (truth v h1) h1
def eAnd (fa fb : Fe) : Fe := fun env h => (fa env h).bind fun v h1 => match truth v h1 with
  | some true => fb env h1
  | some false => .ok v h1
  | none => .bad
def eOr (fa fb : Fe) : Fe := fun env h => (fa env h).bind fun v h1 => match truth v h1 with
  | some true => .ok v h1
  | some false => fb env h1
  | none => .bad
def eNot (fa : Fe) : Fe := fun env h => (fa env h).bind fun v h1 => match truth v h1 with
  | some b => .ok (.bl (!b)) h1
  | none => .bad
def eIf (fc : Env → Heap → Rs Bool) (fa fb : Fe) : Fe := fun env h => (fc env h).bind fun b h1 => if b then fa env h1 else fb env h1

theorem so_and {fa fb : Fe} {ea eb : Expr} {rest : List Expr} {pos : Pos} (ha : SoE g lv N sc fa ea) (hb : SoE g lv N sc fb (.BoolOp .And (eb :: rest) pos)) : SoE g lv N sc (eAnd fa fb) (.BoolOp .And (ea :: eb :: rest) pos) := by
  intro X W G ρ h H env σ Q r e q
  refine (pe_andT (self_e X ea) (self_e X _)).se ?_
  refine ha X W G ρ h H env σ _ r e (QR.imp (QR.bind q) fun vx H1 ⟨ρ1, h1, x, s1, r1, t1, _, q1⟩ => ?_)
  cases z : truth x h1 with
  | none => rw [z] at q1; exact q1.elim
  | some b =>
    rw [z] at q1
    refine ⟨b, by rw [G.hK]; exact truth_ok r1 t1 z, ?_⟩
    cases b with
    | true => exact hb X W G ρ1 h1 H1 env σ Q r1 (e.step r s1) q1
    | false => exact QR.ok (T := VR g) r1 t1 q1
theorem so_or {fa fb : Fe} {ea eb : Expr} {rest : List Expr} {pos : Pos} (ha : SoE g lv N sc fa ea) (hb : SoE g lv N sc fb (.BoolOp .Or (eb :: rest) pos)) : SoE g lv N sc (eOr fa fb) (.BoolOp .Or (ea :: eb :: rest) pos) := by
  intro X W G ρ h H env σ Q r e q
  refine (pe_orT (self_e X ea) (self_e X _)).se ?_
  refine ha X W G ρ h H env σ _ r e (QR.imp (QR.bind q) fun vx H1 ⟨ρ1, h1, x, s1, r1, t1, _, q1⟩ => ?_)
  cases z : truth x h1 with
  | none => rw [z] at q1; exact q1.elim
  | some b =>
    rw [z] at q1
    refine ⟨b, by rw [G.hK]; exact truth_ok r1 t1 z, ?_⟩
    cases b with
    | true => exact QR.ok (T := VR g) r1 t1 q1
    | false => exact hb X W G ρ1 h1 H1 env σ Q r1 (e.step r s1) q1
theorem so_one {f : Fe} {e : Expr} {op : BoolOp} {pos : Pos} (ha : SoE g lv N sc f e) : SoE g lv N sc f (.BoolOp op [e] pos) := by
  intro X W G ρ h H env σ Q r e' q
  exact (pe_one (self_e X e)).se (ha X W G ρ h H env σ Q r e' q)
theorem so_not {fa : Fe} {ea : Expr} {pos : Pos} (ha : SoE g lv N sc fa ea) : SoE g lv N sc (eNot fa) (.UnaryOp .Not ea pos) := by
  intro X W G ρ h H env σ Q r e q
  refine (pe_notT (self_e X ea)).se ?_
  refine ha X W G ρ h H env σ _ r e (QR.imp (QR.bind q) fun vx H1 ⟨ρ1, h1, x, s1, r1, t1, _, q1⟩ => ?_)
  cases z : truth x h1 with
  | none => rw [z] at q1; exact q1.elim
  | some b =>
    rw [z] at q1
    exact ⟨b, by rw [G.hK]; exact truth_ok r1 t1 z, QR.ok (T := VR g) r1 (by rw [VR]) q1⟩
theorem so_ifx {fc : Env → Heap → Rs Bool} {fa fb : Fe} {ec ea eb : Expr} {pos : Pos} (hc : SoT g lv N sc fc ec) (ha : SoE g lv N sc fa ea) (hb : SoE g lv N sc fb eb) : SoE g lv N sc (eIf fc fa fb) (.IfExp ec ea eb pos) := by
  intro X W G ρ h H env σ Q r e q
  refine (pe_ifExp (self_t X ec) (self_e X ea) (self_e X eb)).se ?_
  refine hc X W G ρ h H env σ _ r e (QR.imp (QR.bind q) fun b H1 ⟨ρ1, h1, b', s1, r1, t1, _, q1⟩ => ?_)
  cases t1
  cases b with
  | true => exact ha X W G ρ1 h1 H1 env σ Q r1 (e.step r s1) q1
  | false => exact hb X W G ρ1 h1 H1 env σ Q r1 (e.step r s1) q1

/-! ### tests -/
def plainTest : Expr → Bool
  | .UnaryOp .Not _ _ | .BoolOp _ _ _ | .IfExp _ _ _ _ | .Compare _ _ _ _ => false
  | _ => true
theorem isTrue_plain {e : Expr} (h : plainTest e = true) (env : PySem.Env) (whole : Sem Value) : PySem.isTrue e env whole = (do let v ← whole; standAt e.pos; holding [v] (truthy v)) := by
  cases e <;> first
    | rfl
    | (cases h)
    | (rename_i op a p; cases op <;> first | rfl | cases h)
theorem st_val {f : Fe} {e : Expr} (hp : plainTest e = true) (ha : SoE g lv N sc f e) : SoT g lv N sc (eTru f) e := by
  intro X W G ρ h H env σ Q r e' q
  refine (pt_truth (self_e X e) (fun whole => isTrue_plain hp X.env whole)).se ?_
  refine ha X W G ρ h H env σ _ r e' (QR.imp (QR.bind q) fun vx H1 ⟨ρ1, h1, x, s1, r1, t1, _, q1⟩ => ?_)
  cases z : truth x h1 with
  | none => rw [z] at q1; exact q1.elim
  | some b =>
    rw [z] at q1
    exact ⟨b, by rw [G.hK]; exact truth_ok r1 t1 z, QR.ok (T := fun _ _ _ a b => a = b) r1 rfl q1⟩
def eBl (r : Rs Val) : Rs Bool := r.bind fun v h => match v with
  | .bl b => .ok b h
  | _ => .bad
theorem st_cmp {op : CmpOp} {fo : Val → Val → Heap → Rs Val} {fa fb : Fe} {ea eb : Expr} {pos : Pos} (hm : behindInMarks op eb = false) (ho : SoO g lv (compareOp op) fo) (ha : SoE g lv N sc fa ea) (hb : SoE g lv N sc fb eb) :
    SoT g lv N sc (fun env h => eBl ((fa env h).bind fun x h1 => (fb env h1).bind fun y h2 => fo x y h2)) (.Compare ea [op] [eb] pos) := by
  intro X W G ρ h H env σ Q r e q
  refine (pt_cmpR (self_op X _) (self_e X ea) (self_e X eb) hm).se ?_
  have q' := QR.bind (T := VR g) q
  refine ha X W G ρ h H env σ _ r e (QR.imp (QR.bind q') fun vx H1 ⟨ρ1, h1, x, s1, r1, t1, _, q1⟩ => ?_)
  refine hb X W G ρ1 h1 H1 env σ _ r1 (e.step r s1) (QR.imp (QR.bind q1) fun vy H2 ⟨ρ2, h2, y, s2, r2, t2, _, q2⟩ => ?_)
  refine ho X W N sc G ρ2 h2 H2 σ x y vx vy _ r2 (t1.step r1 s2) t2 (QR.imp q2 fun b H3 ⟨ρ3, h3, v, s3, r3, t3, _, q3⟩ => ?_)
  cases v with
  | bl k => rw [VR] at t3; exact ⟨k, t3, QR.ok (T := fun _ _ _ a b => a = b) r3 rfl q3⟩
  | _ => exact q3.elim
def tAndF (fa fb : Env → Heap → Rs Bool) : Env → Heap → Rs Bool := fun env h => (fa env h).bind fun b h1 => if b then fb env h1 else .ok false h1
def tOrF (fa fb : Env → Heap → Rs Bool) : Env → Heap → Rs Bool := fun env h => (fa env h).bind fun b h1 => if b then .ok true h1 else fb env h1
def tNotF (fa : Env → Heap → Rs Bool) : Env → Heap → Rs Bool := fun env h => (fa env h).bind fun b h1 => .ok (!b) h1
/-- a chain of and, or: whatever its whole -/
def SoW (g : G) (lv : Nat) (N : List Str) (sc : Scope) (f : Env → Heap → Rs Bool) (e : Expr) : Prop :=
  ∀ (X : Cx) (W : WX), Good g X N sc W lv → ∀ (ρ : Nat → Addr) (h : Heap) (H : Hp) (env : Env) (σ : L2.St) (Q : Bool → Hp → Prop), Rel g ρ h H → ER g ρ h.length H env σ → QR g (fun _ _ _ a b => a = b) W ρ h H σ (f env h) Q →
    ∀ (whole : Sem Value) (pins : List (Addr × Obj)) (s : Shared), Inv X pins σ H s → wpAny (model X.prog X.w) X.A (PySem.isTrue e X.env whole) (TP X pins σ Q) X.xe s
theorem SoW.t {f : Env → Heap → Rs Bool} {e : Expr} (h : SoW g lv N sc f e) : SoT g lv N sc f e := fun X W G ρ h' H env σ Q r e' q pins s I => h X W G ρ h' H env σ Q r e' q _ pins s I
abbrev SWt (X : Cx) (e : Expr) : TT := fun σ H Q => ∀ (whole : Sem Value) (pins : List (Addr × Obj)) (s : Shared), Inv X pins σ H s → wpAny (model X.prog X.w) X.A (PySem.isTrue e X.env whole) (TP X pins σ Q) X.xe s
theorem self_w (X : Cx) (e : Expr) : PW X e (SWt X e) := ⟨fun whole pins s σ H Q I h => h whole pins s I⟩
theorem _root_.L2.PW.se {X : Cx} {e : Expr} {t : TT} (h : PW X e t) {σ : L2.St} {H : Hp} {Q : Bool → Hp → Prop} (q : t σ H Q) : SWt X e σ H Q := fun whole pins s I => h.run whole pins s σ H Q I q
theorem sw_and {fa fb : Env → Heap → Rs Bool} {ea eb : Expr} {rest : List Expr} {pos : Pos} (ha : SoT g lv N sc fa ea) (hb : SoW g lv N sc fb (.BoolOp .And (eb :: rest) pos)) : SoW g lv N sc (tAndF fa fb) (.BoolOp .And (ea :: eb :: rest) pos) := by
  intro X W G ρ h H env σ Q r e q
  refine (pw_and (self_t X ea) (self_w X _)).se ?_
  refine ha X W G ρ h H env σ _ r e (QR.imp (QR.bind q) fun b H1 ⟨ρ1, h1, b', s1, r1, t1, _, q1⟩ => ?_)
  cases t1
  cases b with
  | true => exact hb X W G ρ1 h1 H1 env σ Q r1 (e.step r s1) q1
  | false => exact QR.ok (T := fun _ _ _ a b => a = b) r1 rfl q1
theorem sw_or {fa fb : Env → Heap → Rs Bool} {ea eb : Expr} {rest : List Expr} {pos : Pos} (ha : SoT g lv N sc fa ea) (hb : SoW g lv N sc fb (.BoolOp .Or (eb :: rest) pos)) : SoW g lv N sc (tOrF fa fb) (.BoolOp .Or (ea :: eb :: rest) pos) := by
  intro X W G ρ h H env σ Q r e q
  refine (pw_or (self_t X ea) (self_w X _)).se ?_
  refine ha X W G ρ h H env σ _ r e (QR.imp (QR.bind q) fun b H1 ⟨ρ1, h1, b', s1, r1, t1, _, q1⟩ => ?_)
  cases t1
  cases b with
  | true => exact QR.ok (T := fun _ _ _ a b => a = b) r1 rfl q1
  | false => exact hb X W G ρ1 h1 H1 env σ Q r1 (e.step r s1) q1
theorem sw_and1 {fa : Env → Heap → Rs Bool} {ea : Expr} {pos : Pos} (ha : SoT g lv N sc fa ea) : SoW g lv N sc fa (.BoolOp .And [ea] pos) := by
  intro X W G ρ h H env σ Q r e q
  exact (pw_and1 (self_t X ea)).se (ha X W G ρ h H env σ Q r e q)
theorem sw_or1 {fa : Env → Heap → Rs Bool} {ea : Expr} {pos : Pos} (ha : SoT g lv N sc fa ea) : SoW g lv N sc fa (.BoolOp .Or [ea] pos) := by
  intro X W G ρ h H env σ Q r e q
  exact (pw_or1 (self_t X ea)).se (ha X W G ρ h H env σ Q r e q)
theorem st_not {fa : Env → Heap → Rs Bool} {ea : Expr} {pos : Pos} (ha : SoT g lv N sc fa ea) : SoT g lv N sc (tNotF fa) (.UnaryOp .Not ea pos) := by
  intro X W G ρ h H env σ Q r e q
  refine (pt_not (self_t X ea)).se ?_
  refine ha X W G ρ h H env σ _ r e (QR.imp (QR.bind q) fun b H1 ⟨ρ1, h1, b', s1, r1, t1, _, q1⟩ => ?_)
  cases t1
  exact QR.ok (T := fun _ _ _ a b => a = b) r1 rfl q1

/-! ### arguments, displays -/
def isSt : Expr → Bool
  | .Starred _ _ => true
  | _ => false
theorem starEach_plain {e : Expr} (h : isSt e = false) (es : List Expr) (env : PySem.Env) : starEach (e :: es) env = (false, PySem.eval e env) :: starEach es env := by
  cases e <;> first | rfl | cases h
theorem noStar : ∀ {es : List Expr} (h : es.all (fun e => !isSt e) = true) (pos : Pos) (env : PySem.Env), (backTo pos (starEach es env)).any (·.1) = false
  | [], _, _, _ => rfl
  | e :: es, h, pos, env => by
    simp only [List.all_cons, Bool.and_eq_true, Bool.not_eq_true'] at h
    rw [starEach_plain h.1]
    show (false || (backTo pos (starEach es env)).any (·.1)) = false
    rw [Bool.false_or]
    exact noStar h.2 pos env
theorem sa_nil : SoA g lv N sc (fun _ h => .ok [] h) [] := by
  intro X W G ρ h H env σ Q r e q
  exact pa_nil.se (QR.ok (T := VRs g) r (by rw [VRs]) q)
def eCons (f : Fe) (fs : Env → Heap → Rs (List Val)) : Env → Heap → Rs (List Val) := fun env h => (f env h).bind fun v h1 => (fs env h1).bind fun vs h2 => .ok (v :: vs) h2
theorem sa_cons {f : Fe} {fs : Env → Heap → Rs (List Val)} {e : Expr} {es : List Expr} (hs : isSt e = false) (ha : SoE g lv N sc f e) (hb : SoA g lv N sc fs es) : SoA g lv N sc (eCons f fs) (e :: es) := by
  intro X W G ρ h H env σ Q r er q
  refine (pa_cons (self_e X e) (self_a X es) (starEach_plain hs es X.env)).se ?_
  refine ha X W G ρ h H env σ _ r er (QR.imp (QR.bind q) fun vx H1 ⟨ρ1, h1, x, s1, r1, t1, _, q1⟩ => ?_)
  refine hb X W G ρ1 h1 H1 env σ _ r1 (er.step r s1) (QR.imp (QR.bind q1) fun vy H2 ⟨ρ2, h2, y, s2, r2, t2, _, q2⟩ => ?_)
  exact QR.ok (T := VRs g) r2 (by rw [VRs]; exact ⟨vx, vy, rfl, t1.step r1 s2, t2⟩) q2
def eTup (fs : Env → Heap → Rs (List Val)) : Fe := fun env h => (fs env h).bind fun vs h1 => if vs.length ≤ lim ∧ vs ≠ [] then .ok (.tup vs) h1 else .bad
def eLst (fs : Env → Heap → Rs (List Val)) : Fe := fun env h => (fs env h).bind fun vs h1 => if vs.length ≤ lim then al h1 (.lst vs) else .bad
theorem lim_le {n : Nat} (h : n ≤ lim) : n ≤ sizeLine := Nat.le_trans h (by decide)
theorem new_tupE {ρ : Nat → Addr} {h : Heap} {H : Hp} {σ : L2.St} {W : WX} {Q : VK} (r : Rel g ρ h H) (q : QR g (VR g) W ρ h H σ (.ok (.tup []) h) Q) (p : Addr) (hp : H p = none) : Q (.ref p) (upd H p (.frz { cls := .type "tuple", data := .seq #[] } (.tup []))) := by
  refine q ρ _ _ (Stp.fresh r hp) (r.fresh hp) ?_
  rw [VR]
  exact ⟨p, [], rfl, ⟨.inl (.inr ⟨_, upd_same⟩), fun _ => ⟨_, 0, .inl upd_same, rfl, rfl, rfl⟩⟩, by rw [VRs]⟩
theorem new_tup {ρ : Nat → Addr} {h : Heap} {H : Hp} {σ : L2.St} {W : WX} {Q : VK} (r : Rel g ρ h H) {vs : List Val} {xs : List V} (hne : vs ≠ []) (t : VRs g ρ h.length H vs xs) (q : QR g (VR g) W ρ h H σ (.ok (.tup vs) h) Q) (p : Addr) (hp : H p = none) : Q (.ref p) (upd H p (.tup xs)) := by
  refine q ρ _ _ (Stp.fresh r hp) (r.fresh hp) ?_
  rw [VR]
  exact ⟨p, xs, rfl, ⟨.inl (.inl upd_same), fun z => by subst z; exact absurd t.isEmpty (by cases vs with | nil => exact absurd rfl hne | cons _ _ => simp)⟩, t.step r (Stp.fresh r hp)⟩
theorem new_lst {ρ : Nat → Addr} {h : Heap} {H : Hp} {σ : L2.St} {W : WX} {Q : VK} (r : Rel g ρ h H) {vs : List Val} {xs : List V} (hl : vs.length ≤ sizeLine) (t : VRs g ρ h.length H vs xs) (q : QR g (VR g) W ρ h H σ (al h (.lst vs)) Q) (p : Addr) (hp : H p = none) : Q (.ref p) (upd H p (.lst xs)) := by
  have st : Stp ρ (ext ρ h.length p) h (h ++ [(false, .lst vs)]) H (upd H p (.lst xs)) := Stp.alloc r hp
  have t' := t.step r st
  rw [List.length_append, List.length_singleton] at t'
  refine q _ _ _ st (r.alloc hp ⟨hl, xs, upd_same, t'⟩) ?_
  rw [VR]
  exact ⟨by simp, by rw [ext_new]⟩
theorem so_tup {fs : Env → Heap → Rs (List Val)} {es : List Expr} {k : Nat} {pos : Pos} (ha : SoA g lv N sc fs es) : SoE g lv N sc (eTup fs) (.Tuple es k pos) := by
  intro X W G ρ h H env σ Q r er q
  refine (pe_tup (self_a X es)).se ?_
  refine ha X W G ρ h H env σ _ r er (QR.imp (QR.bind q) fun xs H1 ⟨ρ1, h1, vs, s1, r1, t1, _, q1⟩ => ?_)
  by_cases hl : vs.length ≤ lim ∧ vs ≠ []
  · rw [if_pos hl] at q1
    exact ⟨by rw [← t1.length]; exact lim_le hl.1, fun p hp => new_tup r1 hl.2 t1 q1 p hp⟩
  · rw [if_neg hl] at q1; exact q1.elim
theorem so_tup0 {k : Nat} {pos : Pos} : SoE g lv N sc (fun _ h => .ok (.tup []) h) (.Tuple [] k pos) := by
  intro X W G ρ h H env σ Q r er q pins s I
  refine wpAny_Tuple_spliced (thn ((pa_nil (X := X)).run pos pins s σ H (fun xs H1 => xs = [] ∧ H1 = H) I ⟨rfl, rfl⟩) fun us s1 ⟨xs, H1, I1, rv, ⟨z1, z2⟩⟩ => ?_)
  subst z1; subst z2
  cases rv
  refine ⟨by decide, ?_⟩
  have hf : H1 s1.heap.objs.size = none := I1.hok.fresh (Nat.le_refl _)
  refine ⟨.ref s1.heap.objs.size, upd H1 s1.heap.objs.size (.frz { cls := .type "tuple", data := .seq #[] } (.tup [])), I1.laid (t' := s1.toks) (fun b u e => Heap.get?_push_of_some _ e) (Nat.le_refl _) ?_, rfl, new_tupE r q _ hf⟩
  exact ⟨Heap.get?_push_size _ rfl, by decide, [], .nil, ⟨_, Heap.get?_push_size _ rfl, rfl, _, rfl⟩⟩
theorem so_lst {fs : Env → Heap → Rs (List Val)} {es : List Expr} {pos : Pos} (ha : SoA g lv N sc fs es) : SoE g lv N sc (eLst fs) (.List es pos) := by
  intro X W G ρ h H env σ Q r er q
  refine (pe_lst (self_a X es)).se ?_
  refine ha X W G ρ h H env σ _ r er (QR.imp (QR.bind q) fun xs H1 ⟨ρ1, h1, vs, s1, r1, t1, _, q1⟩ => ?_)
  by_cases hl : vs.length ≤ lim
  · rw [if_pos hl] at q1
    exact ⟨by rw [← t1.length]; exact lim_le hl, fun p hp => new_lst r1 (lim_le hl) t1 q1 p hp⟩
  · rw [if_neg hl] at q1; exact q1.elim
end
end MP
end

section
/-! MP, part F: operators on values. -/
set_option autoImplicit false
set_option linter.all false
namespace MP
open PySem L2
section
variable {g : G} {lv : Nat}

theorem VR.of_int {ρ : Nat → Addr} {n : Nat} {H : Hp} {i : Int} {x : V} (t : VR g ρ n H (.int i) x) : x = .int i := by rw [VR] at t; exact t
theorem VR.of_bl {ρ : Nat → Addr} {n : Nat} {H : Hp} {i : Bool} {x : V} (t : VR g ρ n H (.bl i) x) : x = .bl i := by rw [VR] at t; exact t
theorem VR.of_non {ρ : Nat → Addr} {n : Nat} {H : Hp} {x : V} (t : VR g ρ n H .non x) : x = .non := by rw [VR] at t; exact t
theorem VR.of_str {ρ : Nat → Addr} {n : Nat} {H : Hp} {i : Str} {x : V} (t : VR g ρ n H (.str i) x) : x = .str i ∧ i.length ≤ sizeLine := by rw [VR] at t; exact t
theorem VR.of_ref {ρ : Nat → Addr} {n : Nat} {H : Hp} {i : Nat} {x : V} (t : VR g ρ n H (.ref i) x) : i < n ∧ x = .ref (ρ i) := by rw [VR] at t; exact t
theorem VR.of_tup {ρ : Nat → Addr} {n : Nat} {H : Hp} {vs : List Val} {x : V} (t : VR g ρ n H (.tup vs) x) : ∃ a xs, x = .ref a ∧ SqT g.K H a xs ∧ VRs g ρ n H vs xs := by rw [VR] at t; obtain ⟨a, xs, h1, h2, h3⟩ := t; exact ⟨a, xs, h1, h2.1, h3⟩
theorem VR.of_tupA {ρ : Nat → Addr} {n : Nat} {H : Hp} {vs : List Val} {x : V} (t : VR g ρ n H (.tup vs) x) : ∃ a xs, x = .ref a ∧ TupAt g.K H a xs ∧ VRs g ρ n H vs xs := by rw [VR] at t; exact t
theorem VR.int {ρ : Nat → Addr} {n : Nat} {H : Hp} {i : Int} : VR g ρ n H (.int i) (.int i) := by rw [VR]
theorem VR.bl {ρ : Nat → Addr} {n : Nat} {H : Hp} {i : Bool} : VR g ρ n H (.bl i) (.bl i) := by rw [VR]
theorem VR.non {ρ : Nat → Addr} {n : Nat} {H : Hp} : VR g ρ n H .non .non := by rw [VR]
theorem VR.str {ρ : Nat → Addr} {n : Nat} {H : Hp} {i : Str} (h : i.length ≤ sizeLine) : VR g ρ n H (.str i) (.str i) := by rw [VR]; exact ⟨rfl, h⟩

theorem VRs.append {ρ : Nat → Addr} {n : Nat} {H : Hp} : ∀ {vs us : List Val} {xs ys : List V}, VRs g ρ n H vs xs → VRs g ρ n H us ys → VRs g ρ n H (vs ++ us) (xs ++ ys)
  | [], us, xs, ys, a, b => by rw [VRs] at a; subst a; exact b
  | v :: vs, us, xs, ys, a, b => by
    rw [VRs] at a
    obtain ⟨x, r, rfl, e1, e2⟩ := a
    show VRs g ρ n H (v :: (vs ++ us)) _
    rw [VRs]
    exact ⟨x, r ++ ys, rfl, e1, VRs.append e2 b⟩
theorem VRs.flatten {ρ : Nat → Addr} {n : Nat} {H : Hp} {vs : List Val} {xs : List V} (t : VRs g ρ n H vs xs) : ∀ k : Nat, VRs g ρ n H (List.replicate k vs).flatten (List.replicate k xs).flatten
  | 0 => by show VRs g ρ n H [] []; rw [VRs]
  | k + 1 => by
    rw [List.replicate_succ, List.replicate_succ, List.flatten_cons, List.flatten_cons]
    exact t.append (VRs.flatten t k)
theorem str_append_length (a b : Str) : (a ++ b).length = a.length + b.length := by
  show (Str.mk (a.cps ++ b.cps)).cps.size = _
  simp [Str.length]

theorem bo_add : SoO g lv (binaryOp .Add) (bop .add) := by
  intro X W N sc G ρ h H σ x y vx vy Q r tx ty q
  cases x <;> cases y <;> first
    | exact q.elim
    | (rename_i i j
       cases tx.of_int; cases ty.of_int
       exact op_add.se ⟨i, j, rfl, rfl, QR.ok (T := VR g) r VR.int q⟩)
    | (rename_i i j
       obtain ⟨rfl, hi⟩ := tx.of_str; obtain ⟨rfl, hj⟩ := ty.of_str
       by_cases hl : i.length + j.length ≤ lim
       · simp only [bop, if_pos hl] at q
         exact op_add_str.se ⟨i, j, rfl, rfl, lim_le hl, QR.ok (T := VR g) r (VR.str (by rw [str_append_length]; exact lim_le hl)) q⟩
       · simp only [bop, if_neg hl] at q; exact q.elim)
    | (rename_i i j
       obtain ⟨_, rfl⟩ := tx.of_ref; obtain ⟨_, rfl⟩ := ty.of_ref
       simp only [bop] at q
       split at q
       · rename_i xs ys ei ej
         split at q
         · rename_i hl
           obtain ⟨_, us, e1, t1⟩ := r.obj i false _ ei
           obtain ⟨_, ws, e2, t2⟩ := r.obj j false _ ej
           refine op_cat.se ⟨_, _, us, ws, rfl, rfl, e1, e2, by rw [← t1.length, ← t2.length]; exact lim_le hl, fun p hp => ?_⟩
           exact new_lst r (by rw [List.length_append]; exact lim_le hl) (t1.append t2) q p hp
         · exact q.elim
       · exact q.elim)
theorem bo_sub : SoO g lv (binaryOp .Sub) (bop .sub) := by
  intro X W N sc G ρ h H σ x y vx vy Q r tx ty q
  cases x <;> cases y <;> first
    | exact q.elim
    | (rename_i i j
       cases tx.of_int; cases ty.of_int
       exact op_sub.se ⟨i, j, rfl, rfl, QR.ok (T := VR g) r VR.int q⟩)
theorem bo_mul : SoO g lv (binaryOp .Mult) (bop .mul) := by
  intro X W N sc G ρ h H σ x y vx vy Q r tx ty q
  cases x <;> cases y <;> first
    | exact q.elim
    | (rename_i i j
       cases tx.of_int; cases ty.of_int
       simp only [bop] at q
       split at q
       · rename_i hc
         simp only [mulOk, Bool.or_eq_true, Bool.and_eq_true, decide_eq_true_eq] at hc
         exact op_mul.se ⟨i, j, rfl, rfl, hc, QR.ok (T := VR g) r VR.int q⟩
       · exact q.elim)
    | (rename_i i k
       obtain ⟨_, rfl⟩ := tx.of_ref; cases ty.of_int
       simp only [bop] at q
       split at q
       · rename_i xs ei
         split at q
         · rename_i hl
           obtain ⟨_, us, e1, t1⟩ := r.obj i false _ ei
           have hlim : (lim : Int) < 2 ^ 63 := by decide
           refine op_rep.se ⟨_, k, us, rfl, rfl, e1, by omega, by omega, by rw [← t1.length]; exact lim_le hl.2.2, fun p hp => ?_⟩
           refine new_lst r ?_ (t1.flatten _) q p hp
           rw [List.length_flatten, List.map_replicate, List.sum_replicate_nat, Nat.mul_comm]
           exact lim_le hl.2.2
         · exact q.elim
       · exact q.elim)
theorem bo_fdiv : SoO g lv (binaryOp .FloorDiv) (bop .fdiv) := by
  intro X W N sc G ρ h H σ x y vx vy Q r tx ty q
  cases x <;> cases y <;> first
    | exact q.elim
    | (rename_i i j
       cases tx.of_int; cases ty.of_int
       simp only [bop] at q
       split at q
       · rename_i hc
         simp only [Bool.and_eq_true, decide_eq_true_eq] at hc
         exact op_fdiv.se ⟨i, j, rfl, rfl, hc, QR.ok (T := VR g) r VR.int q⟩
       · exact q.elim)
theorem bo_mod : SoO g lv (binaryOp .Mod) (bop .mod) := by
  intro X W N sc G ρ h H σ x y vx vy Q r tx ty q
  cases x <;> cases y <;> first
    | exact q.elim
    | (rename_i i j
       cases tx.of_int; cases ty.of_int
       simp only [bop] at q
       split at q
       · rename_i hc
         exact op_mod.se ⟨i, j, rfl, rfl, of_decide_eq_true hc, QR.ok (T := VR g) r VR.int q⟩
       · exact q.elim)
theorem bo_pow : SoO g lv (binaryOp .Pow) (bop .pow) := by
  intro X W N sc G ρ h H σ x y vx vy Q r tx ty q
  cases x <;> cases y <;> first
    | exact q.elim
    | (rename_i i j
       cases tx.of_int; cases ty.of_int
       simp only [bop] at q
       split at q
       · rename_i hc
         simp only [powOk, Bool.and_eq_true, decide_eq_true_eq] at hc
         exact op_pow.se ⟨i, j, rfl, rfl, ⟨hc.1.1, hc.1.2, hc.2⟩, QR.ok (T := VR g) r VR.int q⟩
       · exact q.elim)
end
end MP
end

section
/-! MP, part G: comparisons on values (none calls anything). -/
set_option autoImplicit false
set_option linter.all false
namespace MP
open PySem L2
section
variable {g : G} {lv : Nat}

/-! ### flat values -/
def fv : Val → V
  | .bl b => .bl b
  | .int i => .int i
  | .str x => .str x
  | _ => .non
theorem VR.flat {ρ : Nat → Addr} {n : Nat} {H : Hp} {v : Val} {x : V} (f : MP.flat v = true) (t : VR g ρ n H v x) : x = fv v := by
  cases v with
  | non => exact t.of_non
  | bl b => exact t.of_bl
  | int i => exact t.of_int
  | str s => exact t.of_str.1
  | _ => cases f
theorem VRs.flat {ρ : Nat → Addr} {n : Nat} {H : Hp} : ∀ {vs : List Val} {xs : List V}, vs.all MP.flat = true → VRs g ρ n H vs xs → xs = vs.map fv
  | [], xs, _, t => by rw [VRs] at t; exact t
  | v :: vs, xs, f, t => by
    rw [VRs] at t
    obtain ⟨x, r, rfl, e1, e2⟩ := t
    rw [List.all_cons, Bool.and_eq_true] at f
    rw [List.map_cons, ← e1.flat f.1, ← VRs.flat f.2 e2]
theorem flat_fv {v : Val} (f : flat v = true) : flatV (fv v) = true := by cases v <;> first | rfl | cases f
theorem all_flat : ∀ {vs : List Val}, vs.all flat = true → (vs.map fv).all flatV = true
  | [], _ => rfl
  | v :: vs, f => by
    rw [List.all_cons, Bool.and_eq_true] at f
    rw [List.map_cons, List.all_cons, flat_fv f.1, all_flat f.2]; rfl
theorem eqV_fv {a b : Val} (fa : flat a = true) (fb : flat b = true) : eqV (fv a) (fv b) = eqF a b := by
  cases a <;> cases b <;> first | rfl | (exact absurd fa Bool.false_ne_true) | (exact absurd fb Bool.false_ne_true)
theorem inV_fv {x : Val} (fx : flat x = true) : ∀ {vs : List Val}, vs.all flat = true → inV (fv x) (vs.map fv) = vs.any fun z => eqF z x
  | [], _ => rfl
  | v :: vs, f => by
    rw [List.all_cons, Bool.and_eq_true] at f
    show (eqV (fv v) (fv x) || inV (fv x) (vs.map fv)) = _
    rw [eqV_fv f.1 fx, inV_fv fx f.2]
    rfl

/-! ### dicts -/
theorem KR.look {ρ : Nat → Addr} {n : Nat} {H : Hp} (k : Key) : ∀ {vs : List (Key × Val)} {xs : List (Key × V)}, KR g ρ n H vs xs →
    (lookK vs k = none ∧ valV xs k = none) ∨ ∃ v x, lookK vs k = some v ∧ valV xs k = some x ∧ VR g ρ n H v x
  | [], xs, t => by rw [KR] at t; subst t; exact .inl ⟨rfl, rfl⟩
  | (k', v) :: vs, xs, t => by
    rw [KR] at t
    obtain ⟨x, r, rfl, e1, e2⟩ := t
    by_cases hk : k' = k
    · exact .inr ⟨v, x, by simp [lookK, List.find?_cons, hk], valV_pos hk, e1⟩
    · rcases KR.look k e2 with ⟨a, b⟩ | ⟨v', x', a, b, c⟩
      · exact .inl ⟨by simpa [lookK, List.find?_cons, hk] using a, by rw [valV_neg hk]; exact b⟩
      · exact .inr ⟨v', x', by simpa [lookK, List.find?_cons, hk] using a, by rw [valV_neg hk]; exact b, c⟩
theorem keyV_ok {ρ : Nat → Addr} {n : Nat} {H : Hp} {v : Val} {x : V} {k : Key} (e : keyV v = some k) (t : VR g ρ n H v x) : x = kV k := by
  cases v with
  | int i => cases e; exact t.of_int
  | str s => cases e; exact t.of_str.1
  | _ => cases e
theorem look_isSome {ρ : Nat → Addr} {n : Nat} {H : Hp} {k : Key} {vs : List (Key × Val)} {xs : List (Key × V)} (t : KR g ρ n H vs xs) : (valV xs k).isSome = (lookK vs k).isSome := by
  rcases t.look k with ⟨a, b⟩ | ⟨v, x, a, b, _⟩ <;> rw [a, b] <;> rfl
theorem hu1 {X : Cx} {W : WX} {N : List Str} {sc : Scope} (G : Good g X N sc W lv) : X.A.units + 1 < cLine := hu_of G.room

theorem co_lt : SoO g lv (compareOp .Lt) (cop .lt) := by
  intro X W N sc G ρ h H σ x y vx vy Q r tx ty q
  cases x <;> cases y <;> first
    | exact q.elim
    | (rename_i i j
       cases tx.of_int; cases ty.of_int
       exact op_lt.se ⟨i, j, rfl, rfl, QR.ok (T := VR g) r VR.bl q⟩)
    | (rename_i i j
       obtain ⟨rfl, hi⟩ := tx.of_str; obtain ⟨rfl, hj⟩ := ty.of_str
       exact op_lt_str.se ⟨i, j, rfl, rfl, QR.ok (T := VR g) r VR.bl q⟩)
theorem co_le : SoO g lv (compareOp .LtE) (cop .le) := by
  intro X W N sc G ρ h H σ x y vx vy Q r tx ty q
  cases x <;> cases y <;> first
    | exact q.elim
    | (rename_i i j
       cases tx.of_int; cases ty.of_int
       exact op_le.se ⟨i, j, rfl, rfl, QR.ok (T := VR g) r VR.bl q⟩)
theorem co_gt : SoO g lv (compareOp .Gt) (cop .gt) := by
  intro X W N sc G ρ h H σ x y vx vy Q r tx ty q
  cases x <;> cases y <;> first
    | exact q.elim
    | (rename_i i j
       cases tx.of_int; cases ty.of_int
       exact op_gt.se ⟨i, j, rfl, rfl, QR.ok (T := VR g) r VR.bl q⟩)
theorem co_ge : SoO g lv (compareOp .GtE) (cop .ge) := by
  intro X W N sc G ρ h H σ x y vx vy Q r tx ty q
  cases x <;> cases y <;> first
    | exact q.elim
    | (rename_i i j
       cases tx.of_int; cases ty.of_int
       exact op_ge.se ⟨i, j, rfl, rfl, QR.ok (T := VR g) r VR.bl q⟩)
theorem VR.ne_non {ρ : Nat → Addr} {n : Nat} {H : Hp} {v : Val} {x : V} (hv : v ≠ .non) (t : VR g ρ n H v x) : x ≠ .non := by
  rintro rfl
  cases v with
  | non => exact hv rfl
  | bl b => exact nomatch t.of_bl
  | int i => exact nomatch t.of_int
  | str s => exact nomatch t.of_str.1
  | tup vs => obtain ⟨_, _, z, _⟩ := t.of_tup; exact nomatch z
  | ref i => exact nomatch t.of_ref.2
  | cls c => rw [VR] at t; exact nomatch t
  | ty n => rw [VR] at t; exact nomatch t
  | scr ns => rw [VR] at t; obtain ⟨_, z, _⟩ := t; exact nomatch z
theorem co_is : SoO g lv (compareOp .Is) (cop .is) := by
  intro X W N sc G ρ h H σ x y vx vy Q r tx ty q
  cases y <;> first
    | exact q.elim
    | (cases ty.of_non
       refine op_isN.se ⟨rfl, ?_⟩
       by_cases hx : x = .non
       · subst hx
         cases tx.of_non
         exact QR.ok (T := VR g) r VR.bl q
       · rw [decide_eq_false (tx.ne_non hx)]
         cases x <;> first | exact absurd rfl hx | exact QR.ok (T := VR g) r VR.bl q)
    | (rename_i b
       cases ty.of_bl
       cases x <;> first
         | exact q.elim
         | (rename_i a
            cases tx.of_bl
            exact op_is_bl.se ⟨a, b, rfl, rfl, QR.ok (T := VR g) r VR.bl q⟩))
theorem co_isn : SoO g lv (compareOp .IsNot) (cop .isn) := by
  intro X W N sc G ρ h H σ x y vx vy Q r tx ty q
  cases y <;> first
    | exact q.elim
    | (cases ty.of_non
       refine op_notN.se ⟨rfl, ?_⟩
       by_cases hx : x = .non
       · subst hx
         cases tx.of_non
         exact QR.ok (T := VR g) r VR.bl q
       · rw [decide_eq_false (tx.ne_non hx)]
         cases x <;> first | exact absurd rfl hx | exact QR.ok (T := VR g) r VR.bl q)
    | (rename_i b
       cases ty.of_bl
       cases x <;> first
         | exact q.elim
         | (rename_i a
            cases tx.of_bl
            exact op_isnot_bl.se ⟨a, b, rfl, rfl, QR.ok (T := VR g) r VR.bl q⟩))
theorem so_dget {X : Cx} {W : WX} {N : List Str} {sc : Scope} (G : Good g X N sc W lv) {ρ : Nat → Addr} {h : Heap} {H : Hp} (r : Rel g ρ h H) {i : Nat} {kvs : List (Key × Val)} (e : rd h i = some (.dct kvs)) {x : Val} {vx : V} {k : Key} (ek : keyV x = some k) (tx : VR g ρ h.length H x vx) :
    ∃ o, DGet H (ρ i) vx o ∧ ((lookK kvs k = none ∧ o = none) ∨ ∃ v y, lookK kvs k = some v ∧ o = some y ∧ VR g ρ h.length H v y) := by
  obtain ⟨xs, e1, e2, _⟩ := r.dct e
  refine ⟨valV xs k, .inl ⟨xs, k, e1, keyV_ok ek tx, rfl⟩, ?_⟩
  exact e2.look k
theorem co_in : SoO g lv (compareOp .In) (cop .in_) := by
  intro X W N sc G ρ h H σ x y vx vy Q r tx ty q
  cases y with
  | tup xs =>
    obtain ⟨a, us, rfl, hq, hv⟩ := ty.of_tup
    simp only [cop] at q
    split at q
    · rename_i hf
      rw [Bool.and_eq_true] at hf
      cases tx.flat hf.1
      cases hv.flat hf.2
      refine op_in_seq.se ⟨a, _, rfl, .inr (by rw [G.hK]; exact hq), flat_fv hf.1, all_flat hf.2, ?_⟩
      rw [inV_fv hf.1 hf.2]
      exact QR.ok (T := VR g) r VR.bl q
    · exact q.elim
  | str z =>
    obtain ⟨rfl, _⟩ := ty.of_str
    cases x with
    | str s =>
      obtain ⟨rfl, _⟩ := tx.of_str
      simp only [cop] at q
      split at q
      · rename_i c hc
        have es : s = ⟨#[c]⟩ := by
          obtain ⟨a⟩ := s
          obtain ⟨l⟩ := a
          cases (show l = [c] from hc)
          rfl
        subst es
        exact op_in_sign.se ⟨c, z, rfl, rfl, QR.ok (T := VR g) r VR.bl q⟩
      · exact q.elim
    | _ => exact q.elim
  | ref i =>
    obtain ⟨_, rfl⟩ := ty.of_ref
    simp only [cop] at q
    split at q
    · rename_i xs e
      split at q
      · rename_i hf
        rw [Bool.and_eq_true] at hf
        obtain ⟨us, hq, hv, _⟩ := r.lst e
        cases tx.flat hf.1
        cases hv.flat hf.2
        refine op_in_seq.se ⟨_, _, rfl, .inl (by rw [G.hK]; exact hq), flat_fv hf.1, all_flat hf.2, ?_⟩
        rw [inV_fv hf.1 hf.2]
        exact QR.ok (T := VR g) r VR.bl q
      · exact q.elim
    · rename_i kvs e
      split at q
      · rename_i k ek
        obtain ⟨o, hg, ho⟩ := so_dget G r e ek tx
        intro pins s σ v u I rx ry
        cases (show u = Value.ref (ρ i) from ry)
        refine d_in (hu1 G) I hg rx fun s' I' => ⟨.bl _, H, I', rfl, ?_⟩
        rcases ho with ⟨a, b⟩ | ⟨v', y', a, b, _⟩ <;> (rw [a] at q; rw [b]; exact QR.ok (T := VR g) r VR.bl q)
      · exact q.elim
    · exact q.elim
  | _ => exact q.elim
theorem co_nin : SoO g lv (compareOp .NotIn) (cop .nin) := by
  intro X W N sc G ρ h H σ x y vx vy Q r tx ty q
  cases y with
  | tup xs =>
    obtain ⟨a, us, rfl, hq, hv⟩ := ty.of_tup
    simp only [cop] at q
    split at q
    · rename_i hf
      rw [Bool.and_eq_true] at hf
      cases tx.flat hf.1
      cases hv.flat hf.2
      refine op_notIn_seq.se ⟨a, _, rfl, .inr (by rw [G.hK]; exact hq), flat_fv hf.1, all_flat hf.2, ?_⟩
      rw [inV_fv hf.1 hf.2]
      exact QR.ok (T := VR g) r VR.bl q
    · exact q.elim
  | ref i =>
    obtain ⟨_, rfl⟩ := ty.of_ref
    simp only [cop] at q
    split at q
    · rename_i xs e
      split at q
      · rename_i hf
        rw [Bool.and_eq_true] at hf
        obtain ⟨us, hq, hv, _⟩ := r.lst e
        cases tx.flat hf.1
        cases hv.flat hf.2
        refine op_notIn_seq.se ⟨_, _, rfl, .inl (by rw [G.hK]; exact hq), flat_fv hf.1, all_flat hf.2, ?_⟩
        rw [inV_fv hf.1 hf.2]
        exact QR.ok (T := VR g) r VR.bl q
      · exact q.elim
    · rename_i kvs e
      split at q
      · rename_i k ek
        obtain ⟨o, hg, ho⟩ := so_dget G r e ek tx
        intro pins s σ v u I rx ry
        cases (show u = Value.ref (ρ i) from ry)
        refine d_notIn (hu1 G) I hg rx fun s' I' => ⟨.bl _, H, I', rfl, ?_⟩
        rcases ho with ⟨a, b⟩ | ⟨v', y', a, b, _⟩ <;> (rw [a] at q; rw [b]; exact QR.ok (T := VR g) r VR.bl q)
      · exact q.elim
    · exact q.elim
  | _ => exact q.elim
end
end MP
end

section
/-! MP, part H: calls of own defs, classes, methods; attributes. -/
set_option autoImplicit false
set_option linter.all false
namespace MP
open PySem L2 PySem.Calls

/-! ### syntax -/
def noSuper : Expr → Bool
  | .Call (.Name id _) _ _ _ => id != ("super" : Str)
  | _ => true
theorem base_plain {o : Expr} (h : noSuper o = true) (attr : Str) (env : PySem.Env) (whole : Sem Value) : attributeBase o attr env whole = whole := by
  unfold attributeBase
  split
  · rename_i id p pos
    have h1 : (id != ("super" : Str)) = true := h
    simp only [h1, Bool.true_or, if_true]
    first | done | exact bind_pure whole
  · rfl
theorem keyword_nil (pos : Pos) (env : PySem.Env) : backToKw pos (keywordEach [] env) = [] := rfl
theorem meth_form {args : List Expr} (hs : args.all (fun e => !isSt e) = true) (hn : args.length < 29) (pos : Pos) (env : PySem.Env) : methodCallForm (args.length + ([] : List Keyword).length) (backTo pos (starEach args env)) (backToKw pos (keywordEach [] env)) = true := by
  unfold methodCallForm
  rw [keyword_nil]
  have h1 : (backTo pos (starEach args env)).all (fun x => !x.1) = true := by
    rw [List.all_eq_true]
    intro x hx
    have := noStar hs pos env
    rw [List.any_eq_false] at this
    simpa using this x hx
  rw [h1]
  simp
  omega
theorem meth_eval {o : Expr} {m : Str} {apos pos : Pos} {args : List Expr} {env : PySem.Env} (hb : noSuper o = true) (hs : args.all (fun e => !isSt e) = true) (hn : args.length < 29) (hl : (apos.endLine == pos.line) = true) :
    PySem.eval (.Call (.Attribute o m apos) args [] pos) env = (do
      let ov ← PySem.eval o env
      standAt apos.atName
      let (f, first) ← holding [ov] (getMethod ov m (do return (← importBound o env).getD true))
      callWith pos f first (backTo pos (starEach args env)) (backToKw pos (keywordEach [] env))) := by
  rw [arm_eval_Call, base_plain hb]
  unfold methodCall
  rw [meth_form hs hn]
  unfold calleeOf methodCallPos
  simp only [if_true, hl, Bool.or_true]
  rfl

section
variable {g : G} {lv : Nat} {N : List Str} {sc : Scope}

/-- the promise of a def, by the evaluator's function -/
def spF (g : G) (np : Nat) (cf : List Val → Heap → Rs Val) : Sp := fun vs H Q E => ∃ (ρ : Nat → Addr) (h : Heap) (args : List Val), Rel g ρ h H ∧ VRs g ρ h.length H args vs ∧ args.length = np ∧ QR g (VR g) (fun cls d _ H' => E cls d H') ρ h H [] (cf args h) Q
theorem spF_of {np : Nat} {cf : List Val → Heap → Rs Val} {ρ : Nat → Addr} {h : Heap} {H : Hp} {W : WX} {σ : L2.St} {args : List Val} {vs : List V} {Q : VK} (r : Rel g ρ h H) (t : VRs g ρ h.length H args vs) (hn : args.length = np) (q : QR g (VR g) W ρ h H σ (cf args h) Q) : spF g np cf vs H Q (WE W σ) := by
  refine ⟨ρ, h, args, r, t, hn, ?_⟩
  cases z : cf args h with
  | ok a h' => rw [z] at q; exact q
  | ex c fs h' => rw [z] at q; exact q
  | bad => rw [z] at q; exact q
abbrev CXg (g : G) : CXT := L2.CX g.P g.w
/-- a def as it may be called with so many values (and dv for the others) -/
structure DOk (g : G) (lv : Nat) (np : Nat) (cf : List Val → Heap → Rs Val) (f : Addr) (fd : FuncData) (ps : List Str) : Prop where
  fn : FnOk g.P g.w g.K g.mg g.base (CXg g) lv f fd ps (spF g np cf)
/-- the defaults that fill up -/
structure DV (g : G) (fd : FuncData) (ps : List Str) (dv : List Val) : Prop where
  ex : ∃ (ds : List Value) (dvs : List V), Binds g.K fd ps ds ∧ Vals dvs ds ∧ ∀ (ρ : Nat → Addr) (n : Nat) (H : Hp), VRs g ρ n H dv dvs

theorem Good.fn {X : Cx} {W : WX} (G : Good g X N sc W lv) {k : Nat} {f : Addr} {fd : FuncData} {ps : List Str} {sp : Sp} (F : FnOk g.P g.w g.K g.mg g.base (CXg g) k f fd ps sp) : FnOk X.prog X.w X.K X.mg X.base (L2.CX X.prog X.w) k f fd ps sp := by
  rw [G.hP, G.hw, G.hK, G.hmg, G.hbase]; exact F
theorem Good.gl {X : Cx} {W : WX} (G : Good g X N sc W lv) {x : Str} (h : sc.names.lookup x = some .globalImplicit) : Gl X x := by
  exact G.hsc.same (by decide) h

/-- the callee runs -/
theorem run_call {X : Cx} {W : WX} (G : Good g X N sc W lv) {k np : Nat} {cf : List Val → Heap → Rs Val} {f : Addr} {fd : FuncData} {ps : List Str} {dv : List Val} (D : DOk g k np cf f fd ps) (hk : k ≤ lv) (V : DV g fd ps dv)
    {pins : List (Addr × Obj)} {s : Shared} {ρ : Nat → Addr} {h : Heap} {H : Hp} {σ : L2.St} {args : List Val} {vs : List L2.V} {us : List Value} {Q : VK} (I : Inv X pins σ H s) (r : Rel g ρ h H) (t : VRs g ρ h.length H args vs) (hu : Vals vs us) (hn : (args ++ dv).length = np)
    (q : QR g (VR g) W ρ h H σ (cf (args ++ dv) h) Q) : wpAny (model X.prog X.w) X.A (call (.ref f) us) (EP X pins σ Q) X.xe s := by
  obtain ⟨ds, dvs, b, hd, hv⟩ := V.ex
  exact run_fnSD (E := WE W) (G.fn D.fn) (G.room.mono hk) (by rw [G.hK]; exact b) hd (passAt G.tk σ) I hu (spF_of r (t.append (hv ρ h.length H)) hn q)

def eCall (np : Nat) (cf : List Val → Heap → Rs Val) (dv : List Val) (fs : Env → Heap → Rs (List Val)) : Fe := fun env h => (fs env h).bind fun vs h1 => if (vs ++ dv).length = np then cf (vs ++ dv) h1 else .bad
theorem so_call {k np : Nat} {cf : List Val → Heap → Rs Val} {f : Addr} {fd : FuncData} {ps : List Str} {dv : List Val} (D : DOk g k np cf f fd ps) (hk : k ≤ lv) (V : DV g fd ps dv) {x : Str} {p pos : Pos} {e : Expr} {es : List Expr} {fs : Env → Heap → Rs (List Val)}
    (hx : sc.names.lookup x = some .globalImplicit) (hm : g.mg x = some (.ref f)) (hkp : PySem.W.keepIn g.K (.ref f) = true) (hdb : (x == ("__debug__" : Str)) = false) (hs : (e :: es).all (fun e => !isSt e) = true) (ha : SoA g lv N sc fs (e :: es)) :
    SoE g lv N sc (eCall np cf dv fs) (.Call (.Name x p) (e :: es) [] pos) := by
  intro X W G ρ h H env σ Q r er q pins s I
  have hm' : X.mg x = some (.ref f) := by rw [G.hmg]; exact hm
  have hkp' : PySem.W.keepIn X.K (.ref f) = true := by rw [G.hK]; exact hkp
  refine wpAny_Call_Name_kw (ld_glob I (G.gl hx) hm' ?_ hdb)
  simp only [List.all_cons, Bool.and_eq_true, Bool.not_eq_true'] at hs
  refine PySem.W.callWith_K (h₀ := X.base) I.ok.mod.kin hkp' (thn (ha X W G ρ h H env σ (fun vs H1 => ∀ (s : Shared), Inv X pins σ H1 s → ∀ us, Vals vs us → wpAny (model X.prog X.w) X.A (call (.ref f) us) (EP X pins σ Q) X.xe s) r er (QR.imp (QR.bind q) fun xs H1 ⟨ρ1, h1, vs, s1, r1, t1, _, q1⟩ => ?_) pos pins s I) fun us s1 ⟨vs, H1, I1, hu, k1⟩ => ⟨I1.kIn, k1 s1 I1 us hu⟩) (starEach_plain hs.1 es X.env) (noStar hs.2 pos X.env)
  intro s I us hu
  by_cases hn : (vs ++ dv).length = np
  · rw [if_pos hn] at q1
    exact run_call G D hk V I r1 t1 hu hn q1
  · rw [if_neg hn] at q1; exact q1.elim
theorem so_call0 {k np : Nat} {cf : List Val → Heap → Rs Val} {f : Addr} {fd : FuncData} {ps : List Str} {dv : List Val} (D : DOk g k np cf f fd ps) (hk : k ≤ lv) (V : DV g fd ps dv) {x : Str} {p pos : Pos}
    (hx : sc.names.lookup x = some .globalImplicit) (hm : g.mg x = some (.ref f)) (hkp : PySem.W.keepIn g.K (.ref f) = true) (hdb : (x == ("__debug__" : Str)) = false) :
    SoE g lv N sc (eCall np cf dv fun _ h => .ok [] h) (.Call (.Name x p) [] [] pos) := by
  intro X W G ρ h H env σ Q r er q pins s I
  have hm' : X.mg x = some (.ref f) := by rw [G.hmg]; exact hm
  have hkp' : PySem.W.keepIn X.K (.ref f) = true := by rw [G.hK]; exact hkp
  refine wpAny_Call_Name_kw (ld_glob I (G.gl hx) hm' (PySem.W.callWith_K0 I.kIn hkp' ?_) hdb)
  have q1 : QR g (VR g) W ρ h H σ (if ([] ++ dv).length = np then cf ([] ++ dv) h else .bad) Q := q
  by_cases hn : ([] ++ dv : List Val).length = np
  · rw [if_pos hn] at q1
    exact run_call (vs := []) (us := []) G D hk V I r (by rw [VRs]) .nil hn q1
  · rw [if_neg hn] at q1; exact q1.elim

/-! ### a class is made -/
/-- the new instance, empty -/
def mk0 (c : Nat) (h : Heap) : Heap := h ++ [(false, .ins c [])]
def eMake (c np : Nat) (cf : List Val → Heap → Rs Val) (dv : List Val) (fs : Env → Heap → Rs (List Val)) : Fe := fun env h => (fs env h).bind fun vs h1 =>
  if (Val.ref h1.length :: (vs ++ dv)).length = np then (cf (.ref h1.length :: (vs ++ dv)) (mk0 c h1)).bind fun v h2 => (match v with
    | .non => .ok (.ref h1.length) h2
    | _ => .bad) else .bad
theorem made_rel {ρ : Nat → Addr} {h : Heap} {H : Hp} {x dx : Addr} {c : Nat} (r : Rel g ρ h H) (nx : H x = none) (ndx : H dx = none) (ne : dx ≠ x) :
    Stp ρ (ext ρ h.length x) h (mk0 c h) H (upd (upd H dx (.own x)) x (.ins (g.C c) dx [])) ∧ Rel g (ext ρ h.length x) (mk0 c h) (upd (upd H dx (.own x)) x (.ins (g.C c) dx [])) := by
  have r1 : Rel g ρ h (upd H dx (.own x)) := r.fresh ndx
  have nx1 : upd H dx (.own x) x = none := by rw [upd_ne (Ne.symm ne)]; exact nx
  exact ⟨(Stp.fresh r ndx).trans (Stp.alloc r1 nx1), r1.alloc nx1 ⟨dx, [], upd_same, by rw [KR]⟩⟩
theorem run_mk {X : Cx} {W : WX} (G : Good g X N sc W lv) {k np c : Nat} {cf : List Val → Heap → Rs Val} {f : Addr} {fd : FuncData} {ps : List Str} {dv : List Val} (M : Mk g.K (g.C c) f) (D : DOk g k np cf f fd ps) (hk : k + 1 ≤ lv) (V : DV g fd ps dv)
    {pins : List (Addr × Obj)} {s : Shared} {ρ : Nat → Addr} {h : Heap} {H : Hp} {σ : L2.St} {args : List Val} {vs : List L2.V} {us : List Value} {Q : VK} (I : Inv X pins σ H s) (r : Rel g ρ h H) (t : VRs g ρ h.length H args vs) (hu : Vals vs us)
    (q : QR g (VR g) W ρ h H σ (if (Val.ref h.length :: (args ++ dv)).length = np then (cf (.ref h.length :: (args ++ dv)) (mk0 c h)).bind fun v h2 => (match v with
    | .non => .ok (.ref h.length) h2
    | _ => .bad) else .bad) Q) : wpAny (model X.prog X.w) X.A (call (.ref (g.C c)) us) (EP X pins σ Q) X.xe s := by
  by_cases hn : (Val.ref h.length :: (args ++ dv)).length = np
  · rw [if_pos hn] at q
    obtain ⟨ds, dvs, b, hd, hv⟩ := V.ex
    have M' : Mk X.K (g.C c) f := by rw [G.hK]; exact M
    have F := G.fn D.fn
    have hr : Room (k + 1) X.A := G.room.mono hk
    have nx : H (s.heap.objs.size + 1) = none := I.hok.fresh (Nat.le_succ _)
    have ndx : H s.heap.objs.size = none := I.hok.fresh (Nat.le_refl _)
    obtain ⟨st, rl⟩ := made_rel (c := c) r nx ndx (Nat.ne_of_lt (Nat.lt_succ_self _))
    have I2 := Inv.made (C := g.C c) I
    have r2 : Vals (L2.V.ref (s.heap.objs.size + 1) :: (vs ++ dvs)) (Value.ref (s.heap.objs.size + 1) :: (us ++ ds)) := .cons rfl (hu.append hd)
    have t2 : VRs g (ext ρ h.length (s.heap.objs.size + 1)) (mk0 c h).length (upd (upd H s.heap.objs.size (.own (s.heap.objs.size + 1))) (s.heap.objs.size + 1) (.ins (g.C c) s.heap.objs.size [])) (Val.ref h.length :: (args ++ dv)) (L2.V.ref (s.heap.objs.size + 1) :: (vs ++ dvs)) := by
      rw [VRs]
      refine ⟨_, _, rfl, ?_, (t.append (hv ρ h.length H)).step r st⟩
      rw [VR]
      exact ⟨by simp [mk0], by rw [ext_new]⟩
    have q0 := QR.step st q
    have hq : spF g np cf (L2.V.ref (s.heap.objs.size + 1) :: (vs ++ dvs)) (upd (upd H s.heap.objs.size (.own (s.heap.objs.size + 1))) (s.heap.objs.size + 1) (.ins (g.C c) s.heap.objs.size [])) (fun v H2 => v = .non ∧ Q (.ref (s.heap.objs.size + 1)) H2) (WE W σ) := by
      refine spF_of rl t2 hn (QR.imp (QR.bind q0) fun v H2 ⟨ρ3, h3, v', s3, r3, t3, _, q3⟩ => ?_)
      cases v' with
      | non =>
        refine ⟨t3.of_non, QR.ok (T := VR g) r3 ?_ q3⟩
        rw [VR]
        refine ⟨Nat.lt_of_lt_of_le (by simp [mk0]) s3.len, ?_⟩
        rw [s3.agr _ (by simp [mk0]), ext_new]
      | _ => exact q3.elim
    have hl : (Value.ref (s.heap.objs.size + 1) :: us ++ ds).length = ps.length := by
      have e := r2.length
      rw [F.len _ _ _ _ hq] at e
      exact e.symm
    refine wpAny_call (make_map (f := f) I.kIn M'.makes M'.init (beq_iff_eq.mp M'.fn) (codeAny_mono (F.run _ X.stack _ _ ⟨Value.ref (s.heap.objs.size + 1) :: us, []⟩ (Value.ref (s.heap.objs.size + 1) :: (us ++ ds)) _ _ (WE W σ) (hr.make (g.C c) us [])
      (I2.env0.make (g.C c) us []) ((by rw [G.hK]; exact b : Binds X.K fd ps ds) _ (Value.ref (s.heap.objs.size + 1) :: us) I2.kIn hl) r2 hq) fun r s' hq' => ?_))
    cases r with
    | error e => exact passAt G.tk σ pins _ _ e s' I2 hq'
    | ok fl =>
      cases fl with
      | ret u =>
        obtain ⟨v, H', I3, rv, ev, q3⟩ := I2.after hq'
        subst ev
        exact ⟨rv, ⟨L2.V.ref (s.heap.objs.size + 1), H', I3, rfl, q3⟩⟩
      | next => exact False.elim hq'
      | brk => exact False.elim hq'
      | cont => exact False.elim hq'
  · rw [if_neg hn] at q; exact q.elim
theorem so_make {k np c : Nat} {cf : List Val → Heap → Rs Val} {f : Addr} {fd : FuncData} {ps : List Str} {dv : List Val} (M : Mk g.K (g.C c) f) (D : DOk g k np cf f fd ps) (hk : k + 1 ≤ lv) (V : DV g fd ps dv) {x : Str} {p pos : Pos} {e : Expr} {es : List Expr} {fs : Env → Heap → Rs (List Val)}
    (hx : sc.names.lookup x = some .globalImplicit) (hm : g.mg x = some (.ref (g.C c))) (hdb : (x == ("__debug__" : Str)) = false) (hs : (e :: es).all (fun e => !isSt e) = true) (ha : SoA g lv N sc fs (e :: es)) :
    SoE g lv N sc (eMake c np cf dv fs) (.Call (.Name x p) (e :: es) [] pos) := by
  intro X W G ρ h H env σ Q r er q pins s I
  have hm' : X.mg x = some (.ref (g.C c)) := by rw [G.hmg]; exact hm
  have hkp' : PySem.W.keepIn X.K (.ref (g.C c)) = true := by rw [G.hK]; exact M.kp
  refine wpAny_Call_Name_kw (ld_glob I (G.gl hx) hm' ?_ hdb)
  simp only [List.all_cons, Bool.and_eq_true, Bool.not_eq_true'] at hs
  refine PySem.W.callWith_K (h₀ := X.base) I.ok.mod.kin hkp' (thn (ha X W G ρ h H env σ (fun vs H1 => ∀ (s : Shared), Inv X pins σ H1 s → ∀ us, Vals vs us → wpAny (model X.prog X.w) X.A (call (.ref (g.C c)) us) (EP X pins σ Q) X.xe s) r er (QR.imp (QR.bind q) fun xs H1 ⟨ρ1, h1, vs, s1, r1, t1, _, q1⟩ => ?_) pos pins s I) fun us s1 ⟨vs, H1, I1, hu, k1⟩ => ⟨I1.kIn, k1 s1 I1 us hu⟩) (starEach_plain hs.1 es X.env) (noStar hs.2 pos X.env)
  intro s I us hu
  exact run_mk G M D hk V I r1 t1 hu q1

/-! ### o.m(..) -/
def insOf (v : Val) (h : Heap) : Option (Nat × List (Str × Val)) := match v with
  | .ref a => (match rd h a with
    | some (.ins c fs) => some (c, fs)
    | _ => none)
  | _ => none
theorem KR.lookup_none {ρ : Nat → Addr} {n : Nat} {H : Hp} {m : Str} : ∀ {fs : List (Str × Val)} {xs : List (Str × L2.V)}, KR g ρ n H fs xs → fs.lookup m = none → xs.lookup m = none
  | [], xs, t, _ => by rw [KR] at t; subst t; rfl
  | (k, v) :: fs, xs, t, e => by
    rw [KR] at t
    obtain ⟨x, r, rfl, _, t2⟩ := t
    rw [List.lookup_cons] at e ⊢
    cases hk : (m == k) with
    | true => rw [hk] at e; cases e
    | false => rw [hk] at e; exact KR.lookup_none t2 e
theorem KR.lookup_some {ρ : Nat → Addr} {n : Nat} {H : Hp} {m : Str} : ∀ {fs : List (Str × Val)} {xs : List (Str × L2.V)} {v : Val}, KR g ρ n H fs xs → fs.lookup m = some v → ∃ x, xs.lookup m = some x ∧ VR g ρ n H v x
  | [], xs, v, t, e => by cases e
  | (k, v') :: fs, xs, v, t, e => by
    rw [KR] at t
    obtain ⟨x, r, rfl, t1, t2⟩ := t
    rw [List.lookup_cons] at e ⊢
    cases hk : (m == k) with
    | true => rw [hk] at e; cases e; exact ⟨x, rfl, t1⟩
    | false => rw [hk] at e; exact KR.lookup_some t2 e
/-- what a method of a class is: the class, the function's number of values and its function -/
structure MI where
  np : Nat
  cf : List Val → Heap → Rs Val
  dv : List Val
def eMeth (tab : Nat → Option MI) (m : Str) (fo : Fe) (fs : Env → Heap → Rs (List Val)) : Fe := fun env h => (fo env h).bind fun v h1 => match insOf v h1 with
  | some (c, fl) => (match tab c, fl.lookup m with
    | some i, none => (fs env h1).bind fun vs h2 => if (v :: (vs ++ i.dv)).length = i.np then i.cf (v :: (vs ++ i.dv)) h2 else .bad
    | _, _ => .bad)
  | none => .bad
/-- what is known of a method -/
structure MOk (g : G) (lv : Nat) (c : Nat) (m : Str) (i : MI) : Prop where
  ex : ∃ (k : Nat) (f : Addr) (fd : FuncData) (ps : List Str), k ≤ lv ∧ L2.Cls g.K (g.C c) ∧ Meth g.K (g.C c) m f ∧ DOk g k i.np i.cf f fd ps ∧ DV g fd ps i.dv
theorem insOf_ok {v : Val} {h : Heap} {c : Nat} {fs : List (Str × Val)} (e : insOf v h = some (c, fs)) : ∃ a, v = .ref a ∧ rd h a = some (.ins c fs) := by
  cases v with
  | ref a =>
    refine ⟨a, rfl, ?_⟩
    unfold insOf at e
    dsimp only at e
    split at e
    · rename_i c' fs' z
      cases e
      exact z
    · cases e
  | _ => cases e
theorem so_meth {tab : Nat → Option MI} {m : Str} (T : ∀ c i, tab c = some i → MOk g lv c m i) {fo : Fe} {fs : Env → Heap → Rs (List Val)} {o e : Expr} {es : List Expr} {apos pos : Pos} (hb : noSuper o = true) (hs : (e :: es).all (fun e => !isSt e) = true) (hn : (e :: es).length < 29) (hl : (apos.endLine == pos.line) = true)
    (ho : SoE g lv N sc fo o) (ha : SoA g lv N sc fs (e :: es)) : SoE g lv N sc (eMeth tab m fo fs) (.Call (.Attribute o m apos) (e :: es) [] pos) := by
  intro X W G ρ h H env σ Q r er q pins s I
  refine PySem.W.methodCall_KW (thn (ho X W G ρ h H env σ (fun x H1 => ∀ (s : Shared) (u : Value), Inv X pins σ H1 s → RelV x u → wpAny (model X.prog X.w) X.A (getMethod u m (do return (← importBound o X.env).getD true)) (fun fx s₂ => wpAny (model X.prog X.w) X.A (callWith pos fx.1 fx.2 (backTo pos (starEach (e :: es) X.env)) (backToKw pos (keywordEach [] X.env))) (EP X pins σ Q) X.xe s₂) X.xe s) r er (QR.imp (QR.bind q) fun x H1 ⟨ρ1, h1, v, s1, r1, t1, _, q1⟩ => ?_) pins s I) fun u s1 ⟨x, H1, I1, rx, k1⟩ => k1 s1 u I1 rx) (meth_eval hb hs hn hl)
  intro s u I rx
  cases z : insOf v h1 with
  | none => rw [z] at q1; exact q1.elim
  | some cf =>
    obtain ⟨c, fl⟩ := cf
    rw [z] at q1
    dsimp only at q1
    obtain ⟨a, rfl, za⟩ := insOf_ok z
    cases zt : tab c with
    | none => rw [zt] at q1; exact q1.elim
    | some i =>
      cases zl : fl.lookup m with
      | some v' => rw [zt, zl] at q1; exact q1.elim
      | none =>
        rw [zt, zl] at q1
        obtain ⟨k, f, fd, ps, hk, cl, mt, D, V⟩ := (T c i zt).ex
        obtain ⟨ha1, rfl⟩ := t1.of_ref
        obtain ⟨dx, xs, e1, e2⟩ := r1.ins za
        cases (show u = Value.ref (ρ1 a) from rx)
        refine getmeth_ok I e1 (by rw [G.hK]; exact cl) (by rw [G.hK]; exact mt) (e2.lookup_none zl) ?_
        simp only [List.all_cons, Bool.and_eq_true, Bool.not_eq_true'] at hs
        refine PySem.W.callWith_K (first := [.ref (ρ1 a)]) (h₀ := X.base) I.ok.mod.kin (by rw [G.hK]; exact mt.kp) (thn (ha X W G ρ1 h1 H1 env σ (fun vs H2 => ∀ (s : Shared), Inv X pins σ H2 s → ∀ us, Vals vs us → wpAny (model X.prog X.w) X.A (call (.ref f) (Value.ref (ρ1 a) :: us)) (EP X pins σ Q) X.xe s) r1 (er.step r s1) (QR.imp (QR.bind q1) fun ys H2 ⟨ρ2, h2, vs, s2, r2, t2, _, q2⟩ => ?_) pos pins s I) fun us s2 ⟨vs, H2, I2, hu, k2⟩ => ⟨I2.kIn, k2 s2 I2 us hu⟩) (starEach_plain hs.1 es X.env) (noStar hs.2 pos X.env)
        intro s I us hu
        by_cases hn : (Val.ref a :: (vs ++ i.dv)).length = i.np
        · rw [if_pos hn] at q2
          refine run_call (args := Val.ref a :: vs) (vs := L2.V.ref (ρ1 a) :: ys) G D hk V I r2 ?_ (.cons rfl hu) hn q2
          rw [VRs]
          exact ⟨_, _, rfl, t1.step r1 s2, t2⟩
        · rw [if_neg hn] at q2; exact q2.elim
theorem so_meth0 {tab : Nat → Option MI} {m : Str} (T : ∀ c i, tab c = some i → MOk g lv c m i) {fo : Fe} {o : Expr} {apos pos : Pos} (hb : noSuper o = true) (hl : (apos.endLine == pos.line) = true)
    (ho : SoE g lv N sc fo o) : SoE g lv N sc (eMeth tab m fo fun _ h => .ok [] h) (.Call (.Attribute o m apos) [] [] pos) := by
  intro X W G ρ h H env σ Q r er q pins s I
  refine PySem.W.methodCall_KW (thn (ho X W G ρ h H env σ (fun x H1 => ∀ (s : Shared) (u : Value), Inv X pins σ H1 s → RelV x u → wpAny (model X.prog X.w) X.A (getMethod u m (do return (← importBound o X.env).getD true)) (fun fx s₂ => wpAny (model X.prog X.w) X.A (callWith pos fx.1 fx.2 (backTo pos (starEach [] X.env)) (backToKw pos (keywordEach [] X.env))) (EP X pins σ Q) X.xe s₂) X.xe s) r er (QR.imp (QR.bind q) fun x H1 ⟨ρ1, h1, v, s1, r1, t1, _, q1⟩ => ?_) pins s I) fun u s1 ⟨x, H1, I1, rx, k1⟩ => k1 s1 u I1 rx) (meth_eval (args := []) hb rfl (by decide) hl)
  intro s u I rx
  cases z : insOf v h1 with
  | none => rw [z] at q1; exact q1.elim
  | some cf =>
    obtain ⟨c, fl⟩ := cf
    rw [z] at q1
    dsimp only at q1
    obtain ⟨a, rfl, za⟩ := insOf_ok z
    cases zt : tab c with
    | none => rw [zt] at q1; exact q1.elim
    | some i =>
      cases zl : fl.lookup m with
      | some v' => rw [zt, zl] at q1; exact q1.elim
      | none =>
        rw [zt, zl] at q1
        obtain ⟨k, f, fd, ps, hk, cl, mt, D, V⟩ := (T c i zt).ex
        obtain ⟨ha1, rfl⟩ := t1.of_ref
        obtain ⟨dx, xs, e1, e2⟩ := r1.ins za
        cases (show u = Value.ref (ρ1 a) from rx)
        refine getmeth_ok I e1 (by rw [G.hK]; exact cl) (by rw [G.hK]; exact mt) (e2.lookup_none zl) ?_
        refine PySem.W.callWith_K0 (first := [.ref (ρ1 a)]) I.kIn (by rw [G.hK]; exact mt.kp) ?_
        have q2 : QR g (VR g) W ρ1 h1 H1 σ (if (Val.ref a :: ([] ++ i.dv)).length = i.np then i.cf (Val.ref a :: ([] ++ i.dv)) h1 else .bad) Q := q1
        by_cases hn : (Val.ref a :: ([] ++ i.dv)).length = i.np
        · rw [if_pos hn] at q2
          refine run_call (args := [Val.ref a]) (vs := [L2.V.ref (ρ1 a)]) (us := [Value.ref (ρ1 a)]) G D hk V I r1 ?_ (.cons rfl .nil) hn q2
          rw [VRs]
          exact ⟨_, _, rfl, t1, by rw [VRs]⟩
        · rw [if_neg hn] at q2; exact q2.elim

/-! ### o.f -/
def eFld (okc : Nat → Bool) (f : Str) (fo : Fe) : Fe := fun env h => (fo env h).bind fun v h1 => match insOf v h1 with
  | some (c, fl) => if okc c then opt (fl.lookup f) h1 else .bad
  | none => .bad
theorem so_fld {okc : Nat → Bool} {f : Str} (T : ∀ c, okc c = true → L2.Cls g.K (g.C c) ∧ NoAttr g.K (g.C c) f) {fo : Fe} {o : Expr} {pos : Pos} (hb : noSuper o = true) (ho : SoE g lv N sc fo o) : SoE g lv N sc (eFld okc f fo) (.Attribute o f pos) := by
  intro X W G ρ h H env σ Q r er q
  refine (pe_fld (self_e X o) (base_plain hb f X.env _)).se ?_
  refine ho X W G ρ h H env σ _ r er (QR.imp (QR.bind q) fun x H1 ⟨ρ1, h1, v, s1, r1, t1, _, q1⟩ => ?_)
  cases z : insOf v h1 with
  | none => rw [z] at q1; exact q1.elim
  | some cf =>
    obtain ⟨c, fl⟩ := cf
    rw [z] at q1
    dsimp only at q1
    obtain ⟨a, rfl, za⟩ := insOf_ok z
    obtain ⟨ha1, rfl⟩ := t1.of_ref
    obtain ⟨dx, xs, e1, e2⟩ := r1.ins za
    cases zk : okc c with
    | false => rw [zk] at q1; exact q1.elim
    | true =>
      rw [zk, if_pos rfl] at q1
      cases zl : fl.lookup f with
      | none => rw [zl] at q1; exact q1.elim
      | some v' =>
        rw [zl] at q1
        obtain ⟨y, l1, l2⟩ := e2.lookup_some zl
        exact ⟨_, _, dx, xs, y, rfl, e1, by rw [G.hK]; exact (T c zk).1, by rw [G.hK]; exact (T c zk).2, l1, QR.ok (T := VR g) r1 l2 q1⟩
end
end MP
end

section
/-! MP, part I: statements. -/
set_option autoImplicit false
set_option linter.all false
namespace MP
open PySem L2

inductive SR where
  | nx (env : Env) (h : Heap)
  | rt (v : Val) (h : Heap)
  | bk (env : Env) (h : Heap)
  | ct (env : Env) (h : Heap)
  | ex (env : Env) (c : Nat) (fs : List (Str × Val)) (h : Heap)
  | bad
def liftS {α : Type} (r : Rs α) (env : Env) (k : α → Heap → SR) : SR := match r with
  | .ok a h => k a h
  | .ex c fs h => .ex env c fs h
  | .bad => .bad
def SR.andThen (r : SR) (k : Env → Heap → SR) : SR := match r with
  | .nx env h => k env h
  | r => r

section
variable {g : G} {lv : Nat} {N : List Str} {sc : Scope}

def QS (g : G) (W : WX) (ρ : Nat → Addr) (h : Heap) (H : Hp) (r : SR) (D : Ends) : Prop := match r with
  | .nx env' h' => ∀ ρ' H' σ', Stp ρ ρ' h h' H H' → Rel g ρ' h' H' → ER g ρ' h'.length H' env' σ' → D.nx σ' H'
  | .rt v h' => ∀ ρ' H' x, Stp ρ ρ' h h' H H' → Rel g ρ' h' H' → VR g ρ' h'.length H' v x → D.rt x H'
  | .bk env' h' => ∀ ρ' H' σ', Stp ρ ρ' h h' H H' → Rel g ρ' h' H' → ER g ρ' h'.length H' env' σ' → D.bk σ' H'
  | .ct env' h' => ∀ ρ' H' σ', Stp ρ ρ' h h' H H' → Rel g ρ' h' H' → ER g ρ' h'.length H' env' σ' → D.ct σ' H'
  | .ex env' c fs h' => ∀ ρ' H' σ' d xs, Stp ρ ρ' h h' H H' → Rel g ρ' h' H' → ER g ρ' h'.length H' env' σ' → H' d = some (.xd xs) → KR g ρ' h'.length H' fs xs → W (.ref (g.C c)) (some d) σ' H'
  | .bad => False
theorem QS.step {W : WX} {ρ ρ1 : Nat → Addr} {h h1 : Heap} {H H1 : Hp} {r : SR} {D : Ends} (s : Stp ρ ρ1 h h1 H H1) (q : QS g W ρ h H r D) : QS g W ρ1 h1 H1 r D := by
  cases r with
  | nx e h' => exact fun ρ' H' σ' s' => q ρ' H' σ' (s.trans s')
  | rt e h' => exact fun ρ' H' σ' s' => q ρ' H' σ' (s.trans s')
  | bk e h' => exact fun ρ' H' σ' s' => q ρ' H' σ' (s.trans s')
  | ct e h' => exact fun ρ' H' σ' s' => q ρ' H' σ' (s.trans s')
  | ex e c fs h' => exact fun ρ' H' σ' d xs s' => q ρ' H' σ' d xs (s.trans s')
  | bad => exact q
theorem QS.lift {α β : Type} {T : (Nat → Addr) → Nat → Hp → α → β → Prop} {W : WX} {ρ : Nat → Addr} {h : Heap} {H : Hp} {σ : L2.St} {env : Env} {r : Rs α} {k : α → Heap → SR} {D : Ends} (rl : Rel g ρ h H) (er : ER g ρ h.length H env σ) (q : QS g W ρ h H (liftS r env k) D) :
    QR g T W ρ h H σ r fun b H1 => ∃ ρ1 h1 a, Stp ρ ρ1 h h1 H H1 ∧ Rel g ρ1 h1 H1 ∧ T ρ1 h1.length H1 a b ∧ r = .ok a h1 ∧ QS g W ρ1 h1 H1 (k a h1) D := by
  cases r with
  | ok a h' => exact fun ρ' H' b s r t => ⟨ρ', h', a, s, r, t, rfl, QS.step s q⟩
  | ex c fs h' => exact fun ρ' H' d xs s r => q ρ' H' σ d xs s r (er.step rl s)
  | bad => exact q

abbrev Fs := Env → Heap → SR
def SoS (g : G) (lv : Nat) (N : List Str) (sc : Scope) (f : Fs) (st : Stmt) : Prop :=
  ∀ (X : Cx) (W : WX), Good g X N sc W lv → ∀ (ρ : Nat → Addr) (h : Heap) (H : Hp) (env : Env) (σ : L2.St) (D : Ends), Rel g ρ h H → ER g ρ h.length H env σ → QS g W ρ h H (f env h) D → SSt X st D σ H
def SoSs (g : G) (lv : Nat) (N : List Str) (sc : Scope) (f : Fs) (st : List Stmt) : Prop :=
  ∀ (X : Cx) (W : WX), Good g X N sc W lv → ∀ (ρ : Nat → Addr) (h : Heap) (H : Hp) (env : Env) (σ : L2.St) (D : Ends), Rel g ρ h H → ER g ρ h.length H env σ → QS g W ρ h H (f env h) D → SSs X st D σ H

theorem ss_nil : SoSs g lv N sc (fun env h => .nx env h) [] := by
  intro X W G ρ h H env σ D r er q
  exact pss_nil.se (q ρ H σ (Stp.refl ..) r er)
theorem ss_cons {f1 f2 : Fs} {st : Stmt} {rest : List Stmt} (h1 : SoS g lv N sc f1 st) (h2 : SoSs g lv N sc f2 rest) : SoSs g lv N sc (fun env h => (f1 env h).andThen f2) (st :: rest) := by
  intro X W G ρ h H env σ D r er q
  refine (pss_cons (self_s X st) (self_ss X rest)).se ?_
  refine h1 X W G ρ h H env σ _ r er ?_
  have q' : QS g W ρ h H ((f1 env h).andThen f2) D := q
  cases z : f1 env h with
  | nx env' h' =>
    rw [z] at q'
    intro ρ' H' σ' s' r' er'
    exact h2 X W G ρ' h' H' env' σ' D r' er' (QS.step s' q')
  | rt v h' => rw [z] at q'; exact q'
  | bk v h' => rw [z] at q'; exact q'
  | ct v h' => rw [z] at q'; exact q'
  | ex e c fs h' => rw [z] at q'; exact q'
  | bad => rw [z] at q'; exact q'
theorem s_pass {pos : Pos} : SoS g lv N sc (fun env h => .nx env h) (.Pass pos) := by
  intro X W G ρ h H env σ D r er q
  exact ps_pass.se (q ρ H σ (Stp.refl ..) r er)
theorem s_break {pos : Pos} : SoS g lv N sc (fun env h => .bk env h) (.Break pos) := by
  intro X W G ρ h H env σ D r er q
  exact ps_break.se (q ρ H σ (Stp.refl ..) r er)
theorem s_continue {pos : Pos} : SoS g lv N sc (fun env h => .ct env h) (.Continue pos) := by
  intro X W G ρ h H env σ D r er q
  exact ps_continue.se (q ρ H σ (Stp.refl ..) r er)
def isComp : Expr → Bool
  | .ListComp .. | .SetComp .. | .DictComp .. => true
  | _ => false
theorem swaps_no {e : Expr} (h : isComp e = false) (t : Option Expr) (n : Nat) (env : PySem.Env) : swapsWith e t n env = pure false := by
  cases e <;> first | rfl | cases h
theorem s_expr {f : Fe} {e : Expr} {pos : Pos} (hc : isComp e = false) (he : SoE g lv N sc f e) : SoS g lv N sc (fun env h => liftS (f env h) env fun _ h1 => .nx env h1) (.Expr e pos) := by
  intro X W G ρ h H env σ D r er q
  refine (ps_expr (self_e X e) (swaps_no hc none _ _)).se ?_
  refine he X W G ρ h H env σ _ r er (QR.imp (QS.lift r er q) fun x H1 ⟨ρ1, h1, v, s1, r1, t1, _, q1⟩ => ?_)
  exact q1 ρ1 H1 σ (Stp.refl ..) r1 (er.step r s1)
theorem s_ret {f : Fe} {e : Expr} {pos : Pos} (he : SoE g lv N sc f e) : SoS g lv N sc (fun env h => liftS (f env h) env fun v h1 => .rt v h1) (.Return (some e) pos) := by
  intro X W G ρ h H env σ D r er q
  refine (ps_ret (self_e X e)).se ?_
  refine he X W G ρ h H env σ _ r er (QR.imp (QS.lift r er q) fun x H1 ⟨ρ1, h1, v, s1, r1, t1, _, q1⟩ => ?_)
  exact q1 ρ1 H1 x (Stp.refl ..) r1 t1
theorem s_retN {pos : Pos} : SoS g lv N sc (fun env h => .rt .non h) (.Return none pos) := by
  intro X W G ρ h H env σ D r er q
  exact ps_retN.se (q ρ H .non (Stp.refl ..) r VR.non)
theorem s_if {fc : Env → Heap → Rs Bool} {fa fb : Fs} {c : Expr} {a b : List Stmt} {pos : Pos} (hc : SoT g lv N sc fc c) (ha : SoSs g lv N sc fa a) (hb : SoSs g lv N sc fb b) : SoS g lv N sc (fun env h => liftS (fc env h) env fun k h1 => if k then fa env h1 else fb env h1) (.If c a b pos) := by
  intro X W G ρ h H env σ D r er q
  refine (ps_if (self_t X c) (self_ss X a) (self_ss X b)).se ?_
  refine hc X W G ρ h H env σ _ r er (QR.imp (QS.lift r er q) fun k H1 ⟨ρ1, h1, v, s1, r1, t1, _, q1⟩ => ?_)
  cases t1
  cases k with
  | true => exact ha X W G ρ1 h1 H1 env σ D r1 (er.step r s1) q1
  | false => exact hb X W G ρ1 h1 H1 env σ D r1 (er.step r s1) q1

/-! ### targets -/
def QG (g : G) (W : WX) (ρ : Nat → Addr) (h : Heap) (H : Hp) (σ : L2.St) (sl : List Nat) (r : Rs Env) (Q : L2.St → Hp → Prop) : Prop := match r with
  | .ok env' h' => ∀ ρ' H' σ', Stp ρ ρ' h h' H H' → Rel g ρ' h' H' → ER g ρ' h'.length H' env' σ' → (σ'.length = σ.length ∧ ∀ i, i ∉ sl → σ'[i]? = σ[i]?) → Q σ' H'
  | _ => False
abbrev Fg := Val → Env → Heap → Rs Env
def SoG (g : G) (lv : Nat) (N : List Str) (sc : Scope) (sl : List Nat) (f : Fg) (t : Expr) : Prop :=
  ∀ (X : Cx) (W : WX), Good g X N sc W lv → ∀ (ρ : Nat → Addr) (h : Heap) (H : Hp) (env : Env) (σ : L2.St) (v : Val) (x : L2.V) (Q : L2.St → Hp → Prop), Rel g ρ h H → ER g ρ h.length H env σ → VR g ρ h.length H v x → QG g W ρ h H σ sl (f v env h) Q → SG X t x σ H Q
abbrev Fgs := List Val → Env → Heap → Rs Env
abbrev SGs (X : Cx) (ts : List Expr) : TGs := fun vs σ H Q => ∀ (pins : List (Addr × Obj)) (s : Shared) (us : List Value), Inv X pins σ H s → Vals vs us → wpAny (model X.prog X.w) X.A (assignInOrder ((assignEach ts X.env).map (·.2)) us) (fun _ s' => ∃ σ' H', Inv X pins σ' H' s' ∧ Q σ' H') X.xe s
theorem self_gs (X : Cx) (ts : List Expr) : PGs X ts (SGs X ts) := ⟨fun pins s σ H vs us Q I r h => h pins s us I r⟩
theorem _root_.L2.PGs.se {X : Cx} {ts : List Expr} {t : TGs} (h : PGs X ts t) {vs : List L2.V} {σ : L2.St} {H : Hp} {Q : L2.St → Hp → Prop} (q : t vs σ H Q) : SGs X ts vs σ H Q := fun pins s us I r => h.run pins s σ H vs us Q I r q
def SoGs (g : G) (lv : Nat) (N : List Str) (sc : Scope) (sl : List Nat) (f : Fgs) (ts : List Expr) : Prop :=
  ∀ (X : Cx) (W : WX), Good g X N sc W lv → ∀ (ρ : Nat → Addr) (h : Heap) (H : Hp) (env : Env) (σ : L2.St) (vs : List Val) (xs : List L2.V) (Q : L2.St → Hp → Prop), Rel g ρ h H → ER g ρ h.length H env σ → VRs g ρ h.length H vs xs → QG g W ρ h H σ sl (f vs env h) Q → SGs X ts xs σ H Q
theorem ER.set {ρ : Nat → Addr} {n : Nat} {H : Hp} {env : Env} {σ : L2.St} {i : Nat} {v : Val} {x : L2.V} (e : ER g ρ n H env σ) (t : VR g ρ n H v x) : ER g ρ n H (env.set i (some v)) (σ.set i (some x)) := by
  refine ⟨by rw [List.length_set, List.length_set]; exact e.len, fun j w ew => ?_⟩
  rcases set_get ew with ⟨rfl, z⟩ | ⟨hj, z⟩
  · cases z
    have hl := lt_of_get ew
    rw [List.length_set, e.len] at hl
    exact ⟨x, List.getElem?_set_self hl, t⟩
  · obtain ⟨y, a, b⟩ := e.val j w z
    exact ⟨y, by rw [List.getElem?_set_ne (Ne.symm hj)]; exact a, b⟩
theorem g_name {i : Nat} {x : Str} {pos : Pos} (hi : N[i]? = some x) (hx : L2.Loc sc x) : SoG g lv N sc [i] (fun v env h => .ok (env.set i (some v)) h) (.Name x pos) := by
  intro X W G ρ h H env σ v y Q r er t q
  have hf : X.fn x = true ∨ X.env.scope.names.lookup x = some .local := by
    rcases hx with a | a
    · exact .inr (G.hsc.same (by decide) a)
    · exact .inl (G.cell x a)
  refine (pg_name (i := i) G.nd (by rw [G.hN]; exact hi) (G.hsc.loc hx) hf).se ?_
  refine q ρ H _ (Stp.refl ..) r (er.set t) ⟨List.length_set, fun j hj => ?_⟩
  rw [List.getElem?_set_ne (by simpa using Ne.symm (by simpa using hj : j ≠ i))]
theorem gs_nil : SoGs g lv N sc [] (fun vs env h => match vs with
    | [] => .ok env h
    | _ => .bad) [] := by
  intro X W G ρ h H env σ vs xs Q r er t q
  cases vs with
  | nil =>
    rw [VRs] at t
    subst t
    exact pgs_nil.se ⟨rfl, q ρ H σ (Stp.refl ..) r er ⟨rfl, fun _ _ => rfl⟩⟩
  | cons v vs => exact q.elim
def isStT : Expr → Bool
  | .Starred _ _ => true
  | _ => false
theorem assignEach_cons {e : Expr} (h : isSt e = false) (es : List Expr) (env : PySem.Env) : assignEach (e :: es) env = (false, assign e env) :: assignEach es env := by
  cases e <;> first | rfl | cases h
theorem gs_cons {sl sl' : List Nat} {f : Fg} {fs : Fgs} {e : Expr} {es : List Expr} (hs : isSt e = false) (h1 : SoG g lv N sc sl f e) (h2 : SoGs g lv N sc sl' fs es) : SoGs g lv N sc (sl ++ sl') (fun vs env h => match vs with
    | v :: r => (f v env h).bind fun env1 h1 => fs r env1 h1
    | [] => .bad) (e :: es) := by
  intro X W G ρ h H env σ vs xs Q r er t q
  cases vs with
  | nil => exact q.elim
  | cons v vs =>
    rw [VRs] at t
    obtain ⟨x, xr, rfl, t1, t2⟩ := t
    refine (pgs_cons (self_g X e) (self_gs X es) (by rw [assignEach_cons hs]; rfl)).se ⟨x, xr, rfl, ?_⟩
    refine h1 X W G ρ h H env σ v x _ r er t1 ?_
    have q' : QG g W ρ h H σ (sl ++ sl') ((f v env h).bind fun env1 h1 => fs vs env1 h1) Q := q
    cases z : f v env h with
    | ok env1 h1' =>
      rw [z] at q'
      intro ρ1 H1 σ1 s1 r1 er1 k1
      refine h2 X W G ρ1 h1' H1 env1 σ1 vs xr Q r1 er1 (t2.step r s1) ?_
      have q'' : QG g W ρ h H σ (sl ++ sl') (fs vs env1 h1') Q := q'
      cases z2 : fs vs env1 h1' with
      | ok env2 h2' =>
        rw [z2] at q''
        intro ρ2 H2 σ2 s2 r2 er2 k2
        exact q'' ρ2 H2 σ2 (s1.trans s2) r2 er2 ⟨k2.1.trans k1.1, fun i hi => by
          rw [List.mem_append, not_or] at hi
          rw [k2.2 i hi.2, k1.2 i hi.1]⟩
      | ex c fs h' => rw [z2] at q''; exact q''.elim
      | bad => rw [z2] at q''; exact q''.elim
    | ex c fs h' => rw [z] at q'; exact q'.elim
    | bad => rw [z] at q'; exact q'.elim
theorem assignEach_length : ∀ (es : List Expr) (env : PySem.Env), (assignEach es env).length = es.length
  | [], _ => rfl
  | e :: es, env => by
    have ih := assignEach_length es env
    cases e <;> (show (_ :: assignEach es env).length = _; rw [List.length_cons, List.length_cons, ih])
theorem assignEach_nostar : ∀ {es : List Expr} (h : es.all (fun e => !isSt e) = true) (env : PySem.Env), (assignEach es env).findIdx? (·.1) = none
  | [], _, _ => rfl
  | e :: es, h, env => by
    simp only [List.all_cons, Bool.and_eq_true, Bool.not_eq_true'] at h
    rw [assignEach_cons h.1, List.findIdx?_cons, assignEach_nostar h.2 env]
    rfl
theorem g_tup {sl : List Nat} {fs : Fgs} {es : List Expr} {k : Nat} {pos : Pos} (hs : es.all (fun e => !isSt e) = true) (ha : SoGs g lv N sc sl fs es) : SoG g lv N sc sl (fun v env h => match v with
    | .tup vs => if vs.length = es.length then fs vs env h else .bad
    | _ => .bad) (.Tuple es k pos) := by
  intro X W G ρ h H env σ v x Q r er t q
  cases v with
  | tup vs =>
    by_cases hl : vs.length = es.length
    · simp only [if_pos hl] at q
      obtain ⟨a, xs, rfl, t1, t2⟩ := t.of_tup
      refine (pg_tup G.calm (self_gs X es) (assignEach_length es X.env) (assignEach_nostar hs X.env)).se ⟨a, xs, rfl, by rw [G.hK]; exact t1, by rw [← t2.length]; exact hl, ?_⟩
      exact ha X W G ρ h H env σ vs xs Q r er t2 q
    · simp only [if_neg hl] at q; exact q.elim
  | _ => exact q.elim

/-! ### assignments -/
def isTupE : Expr → Bool
  | .Tuple .. => true
  | _ => false
theorem swapped_no {t e : Expr} (h : isTupE e = false) (env : PySem.Env) : swappedStores [t] e env = pure none := by
  cases e <;> first
    | (cases t <;> rfl)
    | cases h
theorem sole_no {t e : Expr} (h : isComp e = false) (n : Nat) (env : PySem.Env) : swapsWithSole [t] e n env = pure false := swaps_no h (some t) n env
theorem each_one {t : Expr} (h : isSt t = false) (env : PySem.Env) : (assignEach [t] env).map (·.2) = [assign t env] := by
  rw [assignEach_cons h]; rfl
def sAsg (f : Fe) (ft : Fg) : Fs := fun env h => liftS (f env h) env fun v h1 => liftS (ft v env h1) env fun env2 h2 => .nx env2 h2
theorem QS.asg {W : WX} {ρ : Nat → Addr} {h : Heap} {H : Hp} {σ : L2.St} {sl : List Nat} {env : Env} {r : Rs Env} {D : Ends} (q : QS g W ρ h H (liftS r env fun env2 h2 => .nx env2 h2) D) (hx : ∀ c fs h', r ≠ .ex c fs h') : QG g W ρ h H σ sl r D.nx := by
  cases r with
  | ok env' h' => exact fun ρ' H' σ' s r e _ => q ρ' H' σ' s r e
  | ex c fs h' => exact absurd rfl (hx c fs h')
  | bad => exact q
/-- x = e, (x, y) = e: e is no display of a tuple, no comprehension that is stored at once -/
theorem s_asg {f : Fe} {ft : Fg} {sl : List Nat} {t e : Expr} {pos : Pos} (h1 : swapsWithSole [t] e pos.line = fun _ => pure false) (h2 : swappedStores [t] e = fun _ => pure none) (h3 : isSt t = false) (hx : ∀ v env h c fs h', ft v env h ≠ .ex c fs h')
    (he : SoE g lv N sc f e) (ht : SoG g lv N sc sl ft t) : SoS g lv N sc (sAsg f ft) (.Assign [t] e pos) := by
  intro X W G ρ h H env σ D r er q
  refine (ps_asg (self_e X e) (self_g X t) (by rw [h1]) (by rw [h2]) (each_one h3 X.env)).se ?_
  refine he X W G ρ h H env σ _ r er (QR.imp (QS.lift r er q) fun x H1 ⟨ρ1, h1, v, s1, r1, t1, _, q1⟩ => ?_)
  exact ht X W G ρ1 h1 H1 env σ v x D.nx r1 (er.step r s1) t1 (QS.asg q1 (hx v env h1))
/-- x, y = a, b (two locals, the values not all constants) -/
theorem s_par {fs : Env → Heap → Rs (List Val)} {i j : Nat} {x y : Str} {a b : Expr} {px py pt pt2 pos : Pos} {kt k2 : Nat} (hx : N[i]? = some x) (hy : N[j]? = some y) (hij : i ≠ j) (lx : sc.names.lookup x = some .local) (ly : sc.names.lookup y = some .local)
    (hsw : ∀ env : PySem.Env, ScR env.scope sc → env.scope.kind = .function → swappedStores [.Tuple [.Name x px, .Name y py] kt pt] (.Tuple [a, b] k2 pt2) env = pure (some [x, y])) (ha : SoA g lv N sc fs [a, b]) :
    SoS g lv N sc (fun env h => liftS (fs env h) env fun vs h1 => match vs with
      | [v, w] => .nx ((env.set i (some v)).set j (some w)) h1
      | _ => .bad) (.Assign [.Tuple [.Name x px, .Name y py] kt pt] (.Tuple [a, b] k2 pt2) pos) := by
  intro X W G ρ h H env σ D r er q pins s I
  refine (ps_par (i := i) (j := j) G.calm G.nd (by rw [G.hN]; exact hx) (by rw [G.hN]; exact hy) hij (G.hsc.same (by decide) lx) (G.hsc.same (by decide) ly) (self_a X _) (hsw X.env G.hsc I.ok.kind)).se ?_ pins s I
  refine ha X W G ρ h H env σ _ r er (QR.imp (QS.lift r er q) fun xs H1 ⟨ρ1, h1, vs, s1, r1, t1, _, q1⟩ => ?_)
  match vs, q1, t1 with
  | [], q1, _ => exact q1.elim
  | [_], q1, _ => exact q1.elim
  | _ :: _ :: _ :: _, q1, _ => exact q1.elim
  | [v, w], q1, t1 =>
    rw [VRs] at t1
    obtain ⟨u, ur, rfl, a1, t1⟩ := t1
    rw [VRs] at t1
    obtain ⟨z, zr, rfl, a2, t1⟩ := t1
    rw [VRs] at t1
    subst t1
    exact ⟨u, z, rfl, q1 ρ1 H1 _ (Stp.refl ..) r1 (((er.step r s1).set a1).set a2)⟩
theorem s_par3 {fs : Env → Heap → Rs (List Val)} {i j l : Nat} {x y z : Str} {a b c : Expr} {px py pz pt pt2 pos : Pos} {kt k2 : Nat} (hx : N[i]? = some x) (hy : N[j]? = some y) (hz : N[l]? = some z) (hij : i ≠ j) (hil : i ≠ l) (hjl : j ≠ l) (lx : sc.names.lookup x = some .local) (ly : sc.names.lookup y = some .local) (lz : sc.names.lookup z = some .local)
    (hsw : ∀ env : PySem.Env, ScR env.scope sc → env.scope.kind = .function → swappedStores [.Tuple [.Name x px, .Name y py, .Name z pz] kt pt] (.Tuple [a, b, c] k2 pt2) env = pure (some [x, y, z])) (ha : SoA g lv N sc fs [a, b, c]) :
    SoS g lv N sc (fun env h => liftS (fs env h) env fun vs h1 => match vs with
      | [v, w, u] => .nx (((env.set i (some v)).set j (some w)).set l (some u)) h1
      | _ => .bad) (.Assign [.Tuple [.Name x px, .Name y py, .Name z pz] kt pt] (.Tuple [a, b, c] k2 pt2) pos) := by
  intro X W G ρ h H env σ D r er q pins s I
  refine (ps_par3 (i := i) (j := j) (l := l) G.calm G.nd (by rw [G.hN]; exact hx) (by rw [G.hN]; exact hy) (by rw [G.hN]; exact hz) hij hil hjl (G.hsc.same (by decide) lx) (G.hsc.same (by decide) ly) (G.hsc.same (by decide) lz) (self_a X _) (hsw X.env G.hsc I.ok.kind)).se ?_ pins s I
  refine ha X W G ρ h H env σ _ r er (QR.imp (QS.lift r er q) fun xs H1 ⟨ρ1, h1, vs, s1, r1, t1, _, q1⟩ => ?_)
  match vs, q1, t1 with
  | [], q1, _ => exact q1.elim
  | [_], q1, _ => exact q1.elim
  | [_, _], q1, _ => exact q1.elim
  | _ :: _ :: _ :: _ :: _, q1, _ => exact q1.elim
  | [v, w, k], q1, t1 =>
    rw [VRs] at t1
    obtain ⟨u, ur, rfl, a1, t1⟩ := t1
    rw [VRs] at t1
    obtain ⟨z, zr, rfl, a2, t1⟩ := t1
    rw [VRs] at t1
    obtain ⟨z3, zr3, rfl, a3, t1⟩ := t1
    rw [VRs] at t1
    subst t1
    exact ⟨u, z, z3, rfl, q1 ρ1 H1 _ (Stp.refl ..) r1 ((((er.step r s1).set a1).set a2).set a3)⟩

/-! ### o.f = e -/
theorem KR.putF {ρ : Nat → Addr} {n : Nat} {H : Hp} {f : Str} {v : Val} {x : L2.V} (t : VR g ρ n H v x) : ∀ {fs : List (Str × Val)} {xs : List (Str × L2.V)}, KR g ρ n H fs xs → KR g ρ n H (setF f v fs) (putF f x xs)
  | [], xs, e => by
    rw [KR] at e; subst e
    show KR g ρ n H [(f, v)] [(f, x)]
    rw [KR]
    exact ⟨x, [], rfl, t, by rw [KR]⟩
  | (k, u) :: fs, xs, e => by
    rw [KR] at e
    obtain ⟨y, r, rfl, e1, e2⟩ := e
    show KR g ρ n H (if k = f then (k, v) :: fs else (k, u) :: setF f v fs) (if k = f then (k, x) :: r else (k, y) :: L2.putF f x r)
    by_cases hk : k = f
    · rw [if_pos hk, if_pos hk, KR]
      exact ⟨x, r, rfl, t, e2⟩
    · rw [if_neg hk, if_neg hk, KR]
      exact ⟨y, _, rfl, e1, KR.putF t e2⟩
def sFldF (okc : Nat → Bool) (f : Str) (fo fv : Fe) : Fs := fun env h => liftS (fv env h) env fun v h1 => liftS (fo env h1) env fun o h2 => match o with
  | .ref a => (match h2[a]? with
    | some (false, .ins c fs) => if okc c && decide (fs.length < 100) then .nx env (h2.set a (false, .ins c (setF f v fs))) else .bad
    | _ => .bad)
  | _ => .bad
theorem s_fld {okc : Nat → Bool} {f : Str} (T : ∀ c, okc c = true → L2.Cls g.K (g.C c) ∧ NoAttr g.K (g.C c) f) {fo fv : Fe} {o e : Expr} {pos pos' : Pos} (hc : isComp e = false ∨ True) (ho : SoE g lv N sc fo o) (he : SoE g lv N sc fv e) :
    SoS g lv N sc (sFldF okc f fo fv) (.Assign [.Attribute o f pos'] e pos) := by
  intro X W G ρ h H env σ D r er q
  have hsw : swapsWith e (some (.Attribute o f pos')) pos.line X.env = pure false := by cases e <;> rfl
  refine (ps_fld (self_e X o) (self_e X e) hsw).se ?_
  refine he X W G ρ h H env σ _ r er (QR.imp (QS.lift r er q) fun y H1 ⟨ρ1, h1, v, s1, r1, t1, _, q1⟩ => ?_)
  have er1 := er.step r s1
  refine ho X W G ρ1 h1 H1 env σ _ r1 er1 (QR.imp (QS.lift r1 er1 q1) fun x H2 ⟨ρ2, h2, ov, s2, r2, t2, _, q2⟩ => ?_)
  cases ov with
  | ref a =>
    dsimp only at q2
    obtain ⟨ha, rfl⟩ := t2.of_ref
    cases z : h2[a]? with
    | none => rw [z] at q2; exact q2.elim
    | some cl =>
      obtain ⟨b, cl⟩ := cl
      rw [z] at q2
      cases cl with
      | ins c fs =>
        cases b with
        | true => exact q2.elim
        | false =>
          dsimp only at q2
          cases zk : (okc c && decide (fs.length < 100)) with
          | false => rw [zk] at q2; exact q2.elim
          | true =>
            rw [zk, if_pos rfl] at q2
            rw [Bool.and_eq_true, decide_eq_true_eq] at zk
            obtain ⟨dx, xs, e1, e2⟩ := r2.obj a false _ z
            refine ⟨_, _, dx, xs, rfl, e1, by rw [G.hK]; exact (T c zk.1).1, by rw [G.hK]; exact (T c zk.1).2, by rw [← e2.length]; omega, ?_⟩
            have st : Stp ρ2 ρ2 h2 (h2.set a (false, .ins c (setF f v fs))) H2 (upd H2 (ρ2 a) (.ins (g.C c) dx (L2.putF f y xs))) := Stp.write r2 z
            have tv := (t1.step r1 s2).step r2 st
            have e2' := e2.step r2 st
            rw [List.length_set] at tv e2'
            refine q2 ρ2 _ σ st (r2.write z ⟨dx, _, upd_same, KR.putF tv e2'⟩) ?_
            exact (er1.step r1 s2).step r2 st
      | lst _ => cases b <;> exact q2.elim
      | dct _ => cases b <;> exact q2.elim
  | _ => exact q2.elim
end
end MP
end

section
/-! MP, part J: stores to places, loops. -/
set_option autoImplicit false
set_option linter.all false
namespace MP
open PySem L2
section
variable {g : G} {lv : Nat} {N : List Str} {sc : Scope}

/-! ### o[i] = e -/
theorem VRs.set {ρ : Nat → Addr} {n : Nat} {H : Hp} {v : Val} {x : L2.V} (t : VR g ρ n H v x) : ∀ {vs : List Val} {xs : List L2.V} (j : Nat), VRs g ρ n H vs xs → VRs g ρ n H (vs.set j v) (xs.set j x)
  | [], xs, j, e => by rw [VRs] at e; subst e; show VRs g ρ n H [] []; rw [VRs]
  | u :: vs, xs, 0, e => by
    rw [VRs] at e
    obtain ⟨y, r, rfl, e1, e2⟩ := e
    show VRs g ρ n H (v :: vs) (x :: r)
    rw [VRs]
    exact ⟨x, r, rfl, t, e2⟩
  | u :: vs, xs, j + 1, e => by
    rw [VRs] at e
    obtain ⟨y, r, rfl, e1, e2⟩ := e
    show VRs g ρ n H (u :: vs.set j v) (y :: r.set j x)
    rw [VRs]
    exact ⟨y, _, rfl, e1, VRs.set t j e2⟩
theorem KR.any {ρ : Nat → Addr} {n : Nat} {H : Hp} {k : Key} : ∀ {vs : List (Key × Val)} {xs : List (Key × L2.V)}, KR g ρ n H vs xs → (xs.any fun kv => decide (kv.1 = k)) = (vs.any fun kv => decide (kv.1 = k))
  | [], xs, e => by rw [KR] at e; subst e; rfl
  | (k', u) :: vs, xs, e => by
    rw [KR] at e
    obtain ⟨y, r, rfl, e1, e2⟩ := e
    rw [List.any_cons, List.any_cons, KR.any e2]
theorem KR.map {ρ : Nat → Addr} {n : Nat} {H : Hp} {k : Key} {v : Val} {x : L2.V} (t : VR g ρ n H v x) : ∀ {vs : List (Key × Val)} {xs : List (Key × L2.V)}, KR g ρ n H vs xs → KR g ρ n H (vs.map fun kv => if kv.1 = k then (kv.1, v) else kv) (xs.map fun kv => if kv.1 = k then (kv.1, x) else kv)
  | [], xs, e => by rw [KR] at e; subst e; show KR g ρ n H [] []; rw [KR]
  | (k', u) :: vs, xs, e => by
    rw [KR] at e
    obtain ⟨y, r, rfl, e1, e2⟩ := e
    rw [List.map_cons, List.map_cons]
    by_cases hk : k' = k
    · rw [if_pos hk, if_pos hk, KR]
      exact ⟨x, _, rfl, t, KR.map t e2⟩
    · rw [if_neg hk, if_neg hk, KR]
      exact ⟨y, _, rfl, e1, KR.map t e2⟩
theorem KR.append {κ : Type} {ρ : Nat → Addr} {n : Nat} {H : Hp} {k : κ} {v : Val} {x : L2.V} (t : VR g ρ n H v x) : ∀ {vs : List (κ × Val)} {xs : List (κ × L2.V)}, KR g ρ n H vs xs → KR g ρ n H (vs ++ [(k, v)]) (xs ++ [(k, x)])
  | [], xs, e => by rw [KR] at e; subst e; show KR g ρ n H [(k, v)] [(k, x)]; rw [KR]; exact ⟨x, [], rfl, t, by rw [KR]⟩
  | (k', u) :: vs, xs, e => by
    rw [KR] at e
    obtain ⟨y, r, rfl, e1, e2⟩ := e
    rw [List.cons_append, List.cons_append, KR]
    exact ⟨y, _, rfl, e1, KR.append t e2⟩
theorem KR.put {ρ : Nat → Addr} {n : Nat} {H : Hp} {k : Key} {v : Val} {x : L2.V} (t : VR g ρ n H v x) {vs : List (Key × Val)} {xs : List (Key × L2.V)} (e : KR g ρ n H vs xs) : KR g ρ n H (setK vs k v) (putK xs k x) := by
  unfold setK putK
  rw [e.any]
  split
  · exact e.map t
  · exact e.append t
theorem setK_length {α : Type} (kvs : List (Key × α)) (k : Key) (v : α) : (setK kvs k v).length ≤ kvs.length + 1 := by
  unfold setK
  split
  · rw [List.length_map]; omega
  · rw [List.length_append]; simp
theorem DLen.put {kvs : List (Key × Val)} {k : Key} {v : Val} (d : DLen kvs) (hl : kvs.length < lim) (hk : KOk k) : DLen (setK kvs k v) := by
  refine ⟨Nat.le_trans (setK_length kvs k v) (Nat.le_trans hl (by decide)), fun p hp => ?_⟩
  unfold setK at hp
  split at hp
  · obtain ⟨q, hq, e⟩ := List.mem_map.mp hp
    split at e <;> (rw [← e]; exact d.2 q hq)
  · rcases List.mem_append.mp hp with hp | hp
    · exact d.2 p hp
    · rw [List.mem_singleton.mp hp]; exact hk
theorem keyV_kok {ρ : Nat → Addr} {n : Nat} {H : Hp} {v : Val} {x : L2.V} {k : Key} (e : keyV v = some k) (t : VR g ρ n H v x) : KOk k := by
  cases v with
  | int i => cases e; exact True.intro
  | str s => cases e; exact t.of_str.2
  | _ => cases e
def putAt (o i v : Val) (h : Heap) : Option Heap := match o with
  | .ref a => (match h[a]? with
    | some (false, .lst xs) => (match i with
      | .int k => (match ixN xs.length k with
        | some j => some (h.set a (false, .lst (xs.set j v)))
        | none => none)
      | _ => none)
    | some (false, .dct kvs) => (match keyV i with
      | some k => if kvs.length < lim then some (h.set a (false, .dct (setK kvs k v))) else none
      | none => none)
    | _ => none)
  | _ => none
def sSubF (fo fi fv : Fe) : Fs := fun env h => liftS (fv env h) env fun v h1 => liftS (fo env h1) env fun o h2 => liftS (fi env h2) env fun i h3 => match putAt o i v h3 with
  | some h4 => .nx env h4
  | none => .bad
def isLstAt (v : Val) (h : Heap) : Bool := match v with
  | .ref a => (match h[a]? with
    | some (_, .lst _) => true
    | _ => false)
  | _ => false
def isSlice : Expr → Bool
  | .Slice .. => true
  | _ => false
theorem s_sub {fo fi fv : Fe} {o i e : Expr} {pos pos' : Pos} (hi : isSlice i = false) (hc : isComp e = false) (ht : isTupE e = false) (ho : SoE g lv N sc fo o) (hix : SoE g lv N sc fi i) (he : SoE g lv N sc fv e) :
    SoS g lv N sc (sSubF fo fi fv) (.Assign [.Subscript o i pos'] e pos) := by
  intro X W G ρ h H env σ D r er q
  have hsw : swapsWith e (some (.Subscript o i pos')) pos.line X.env = pure false := by cases e <;> rfl
  by_cases hL : ∃ v h1 ov h2 iv h3, fv env h = .ok v h1 ∧ fo env h1 = .ok ov h2 ∧ fi env h2 = .ok iv h3 ∧ isLstAt ov h3 = true
  · obtain ⟨v0, h10, ov0, h20, iv0, h30, E1, E2, E3, E4⟩ := hL
    have hpg : ∀ v : Value, assign (.Subscript o i pos') X.env v = (do
        let ov ← holding [v] (PySem.eval o X.env)
        let iv ← holding [v, ov] (PySem.eval i X.env)
        standAt pos'
        holding [v, ov, iv] (setItem ov iv v)
        release [v, ov, iv] []) := fun v => by cases i <;> first | rfl | cases hi
    refine (ps_asg (self_e X e) (pg_sub (self_e X o) (self_e X i) set_list hpg) (sole_no hc _ _) (swapped_no ht _)).se ?_
    refine he X W G ρ h H env σ _ r er (QR.imp (QS.lift r er q) fun y H1 ⟨ρ1, h1, v, s1, r1, t1, Ea, q1⟩ => ?_)
    rw [E1] at Ea; cases Ea
    have er1 := er.step r s1
    refine ho X W G ρ1 _ H1 env σ _ r1 er1 (QR.imp (QS.lift r1 er1 q1) fun x H2 ⟨ρ2, h2, ov, s2, r2, t2, Eb, q2⟩ => ?_)
    rw [E2] at Eb; cases Eb
    have er2 := er1.step r1 s2
    refine hix X W G ρ2 _ H2 env σ _ r2 er2 (QR.imp (QS.lift r2 er2 q2) fun z H3 ⟨ρ3, h3, iv, s3, r3, t3, Ec, q3⟩ => ?_)
    rw [E3] at Ec; cases Ec
    cases ov0 with
    | ref a =>
      obtain ⟨ha, rfl⟩ := (t2.step r2 s3).of_ref
      unfold isLstAt at E4
      dsimp only at E4
      cases za : h30[a]? with
      | none => rw [za] at E4; cases E4
      | some cl =>
        obtain ⟨b, cl⟩ := cl
        rw [za] at E4
        cases cl with
        | lst xs =>
          unfold putAt at q3
          dsimp only at q3
          rw [za] at q3
          cases b with
          | true => exact q3.elim
          | false =>
            cases iv0 with
            | int k =>
              dsimp only at q3
              cases zj : ixN xs.length k with
              | none => rw [zj] at q3; exact q3.elim
              | some j =>
                rw [zj] at q3
                cases t3.of_int
                obtain ⟨hl, us, e1, e2⟩ := r3.obj a false _ za
                have st : Stp ρ3 ρ3 h30 (h30.set a (false, .lst (xs.set j v0))) H3 (upd H3 (ρ3 a) (.lst (us.set j y))) := Stp.write r3 za
                refine ⟨_, us, k, j, rfl, rfl, e1, by rw [← e2.length]; exact zj, ?_⟩
                have tv := ((t1.step r1 s2).step r2 s3).step r3 st
                have e2' := e2.step r3 st
                rw [List.length_set] at tv e2'
                exact q3 ρ3 _ σ st (r3.write za ⟨by rw [List.length_set]; exact hl, _, upd_same, VRs.set tv j e2'⟩) ((er2.step r2 s3).step r3 st)
            | _ => exact q3.elim
        | dct _ => cases E4
        | ins _ _ => cases E4
    | _ => cases E4
  · refine (ps_dput (hu1 G) (self_e X o) (self_e X i) (self_e X e) hsw).se ?_
    refine he X W G ρ h H env σ _ r er (QR.imp (QS.lift r er q) fun y H1 ⟨ρ1, h1, v, s1, r1, t1, Ea, q1⟩ => ?_)
    have er1 := er.step r s1
    refine ho X W G ρ1 _ H1 env σ _ r1 er1 (QR.imp (QS.lift r1 er1 q1) fun x H2 ⟨ρ2, h2, ov, s2, r2, t2, Eb, q2⟩ => ?_)
    have er2 := er1.step r1 s2
    refine hix X W G ρ2 _ H2 env σ _ r2 er2 (QR.imp (QS.lift r2 er2 q2) fun z H3 ⟨ρ3, h3, iv, s3, r3, t3, Ec, q3⟩ => ?_)
    cases ov with
    | ref a =>
      obtain ⟨ha, rfl⟩ := (t2.step r2 s3).of_ref
      unfold putAt at q3
      dsimp only at q3
      cases za : h3[a]? with
      | none => rw [za] at q3; exact q3.elim
      | some cl =>
        obtain ⟨b, cl⟩ := cl
        rw [za] at q3
        cases b with
        | true => cases cl <;> exact q3.elim
        | false =>
          cases cl with
          | lst xs => exact absurd ⟨v, h1, _, h2, iv, h3, Ea, Eb, Ec, by unfold isLstAt; dsimp only; rw [za]⟩ hL
          | ins _ _ => exact q3.elim
          | dct kvs =>
            dsimp only at q3
            cases zk : keyV iv with
            | none => rw [zk] at q3; exact q3.elim
            | some k =>
              rw [zk] at q3
              dsimp only at q3
              by_cases hl : kvs.length < lim
              · rw [if_pos hl] at q3
                obtain ⟨hz, us, e1, e2⟩ := r3.obj a false _ za
                have hk := keyV_kok zk t3
                cases keyV_ok zk t3
                have hl2 : us.length < sizeLine := by rw [← e2.length]; exact Nat.lt_of_lt_of_le hl (by decide)
                refine ⟨_, _, rfl, DPut.k e1 hl2, ?_⟩
                have st : Stp ρ3 ρ3 h3 (h3.set a (false, .dct (setK kvs k v))) H3 (upd H3 (ρ3 a) (.dK (putK us k y))) := Stp.write r3 za
                have tv := ((t1.step r1 s2).step r2 s3).step r3 st
                have e2' := e2.step r3 st
                rw [List.length_set] at tv e2'
                exact q3 ρ3 _ σ st (r3.write za ⟨hz.put hl hk, _, upd_same, KR.put tv e2'⟩) ((er2.step r2 s3).step r3 st)
              · rw [if_neg hl] at q3; exact q3.elim
    | _ => exact q3.elim
end
end MP
end

section
/-! MP, part K: what is walked; for, while. -/
set_option autoImplicit false
set_option linter.all false
namespace MP
open PySem L2

structure Src where
  xs : List Val
  lk : Option Nat
def lockH (h : Heap) (lk : Option Nat) : Heap := match lk with
  | none => h
  | some a => (match h[a]? with
    | some (false, b) => h.set a (true, b)
    | _ => h)
/-- h0: the heap ahead of the lock -/
def unlockH (h0 h : Heap) (lk : Option Nat) : Heap := match lk with
  | none => h
  | some a => (match h0[a]? with
    | some (false, b) => h.set a (false, b)
    | _ => h)
def unlS (h0 : Heap) (lk : Option Nat) : SR → SR
  | .nx e h => .nx e (unlockH h0 h lk)
  | .rt v h => .rt v (unlockH h0 h lk)
  | .bk e h => .bk e (unlockH h0 h lk)
  | .ct e h => .ct e (unlockH h0 h lk)
  | r => r
def forGo (f : Val → Env → Heap → SR) : List Val → Env → Heap → SR
  | [], env, h => .nx env h
  | v :: r, env, h => match f v env h with
    | .nx e h => forGo f r e h
    | .ct e h => forGo f r e h
    | .bk e h => .nx e h
    | q => q
def sFor (fi : Env → Heap → Rs Src) (ft : Fg) (fb : Fs) : Fs := fun env h => liftS (fi env h) env fun src h1 => unlS h1 src.lk (forGo (fun v env h => liftS (ft v env h) env fb) src.xs env (lockH h1 src.lk))

section
variable {g : G} {lv : Nat} {N : List Str} {sc : Scope}

def LockR (X : Cx) (ρ : Nat → Addr) (h : Heap) (H : Hp) (lk : Option Nat) (H2 : Hp) : Prop := match lk with
  | none => H2 = H
  | some a => (match h[a]? with
    | some (false, .dct _) => ∃ od xs, H (ρ a) = some (.dK xs) ∧ (∀ o' u', X.H_0 (ρ a) ≠ some (.frz o' u')) ∧ H2 = upd H (ρ a) (.frz od (.dK xs))
    | some (false, .lst _) => H2 = H
    | some (false, .ins _ _) => False
    | some (true, _) => H2 = H
    | none => False)
def UnlR (X : Cx) (H H' : Hp) : Prop := H' = H ∨ ∃ d od u, H d = some (.frz od u) ∧ (∀ o' u', X.H_0 d ≠ some (.frz o' u')) ∧ H' = upd H d u
structure SrcOk (g : G) (J : L2.It) (xs : List Val) (S : (Nat → Addr) → Heap → Hp → Prop) : Prop where
  go : ∀ ρ h H i, S ρ h H → Rel g ρ h H → i < xs.length → J.go i H
  stop : ∀ ρ h H, S ρ h H → Rel g ρ h H → J.stop xs.length H
  yld : ∀ ρ h H i v x H', S ρ h H → Rel g ρ h H → xs[i]? = some v → J.yld i H x H' → Stp ρ ρ h h H H' ∧ Rel g ρ h H' ∧ VR g ρ h.length H' v x
  step : ∀ ρ ρ' h h' H H', S ρ h H → Rel g ρ h H → Stp ρ ρ' h h' H H' → S ρ' h' H'
def QI (g : G) (X : Cx) (W : WX) (ρ : Nat → Addr) (h : Heap) (H : Hp) (σ : L2.St) (r : Rs Src) (R : L2.It → Hp → Prop) : Prop := match r with
  | .ok src h1 => ∀ ρ1 H1 H2 J S, Stp ρ ρ1 h h1 H H1 → Rel g ρ1 h1 H1 → LockR X ρ1 h1 H1 src.lk H2 → SrcOk g J src.xs S → S ρ1 (lockH h1 src.lk) H2 → R J H2
  | .ex c fs h' => ∀ ρ' H' d xs, Stp ρ ρ' h h' H H' → Rel g ρ' h' H' → H' d = some (.xd xs) → KR g ρ' h'.length H' fs xs → W (.ref (g.C c)) (some d) σ H'
  | .bad => False
abbrev Fi := Env → Heap → Rs Src
def SoI (g : G) (lv : Nat) (N : List Str) (sc : Scope) (f : Fi) (tg it : Expr) : Prop :=
  ∀ (X : Cx) (W : WX), Good g X N sc W lv → ∀ (ρ : Nat → Addr) (h : Heap) (H : Hp) (env : Env) (σ : L2.St) (R : L2.It → Hp → Prop), Rel g ρ h H → ER g ρ h.length H env σ → QI g X W ρ h H σ (f env h) R → SI X tg it σ H R

/-! ### locks -/
theorem lock_len (h : Heap) (lk : Option Nat) : (lockH h lk).length = h.length := by
  unfold lockH
  split
  · rfl
  · split
    · rw [List.length_set]
    · rfl
theorem unlock_len (h0 h : Heap) (lk : Option Nat) : (unlockH h0 h lk).length = h.length := by
  unfold unlockH
  split
  · rfl
  · split
    · rw [List.length_set]
    · rfl
theorem lock_step {X : Cx} {ρ : Nat → Addr} {h : Heap} {H H2 : Hp} {lk : Option Nat} (r : Rel g ρ h H) (l : LockR X ρ h H lk H2) : Stp ρ ρ h (lockH h lk) H H2 ∧ Rel g ρ (lockH h lk) H2 := by
  cases lk with
  | none => cases (show H2 = H from l); exact ⟨Stp.refl .., r⟩
  | some a =>
    unfold LockR at l
    unfold lockH
    dsimp only at l ⊢
    cases z : h[a]? with
    | none => rw [z] at l; exact l.elim
    | some c =>
      obtain ⟨b, c⟩ := c
      rw [z] at l
      cases b with
      | true => cases (show H2 = H from l); exact ⟨Stp.refl .., r⟩
      | false =>
        have hlen : ∀ c', (h.set a (true, c')).length = h.length := fun c' => List.length_set
        cases c with
        | ins _ _ => exact l.elim
        | lst vs =>
          cases (show H2 = H from l)
          dsimp only
          have st : Stp ρ ρ h (h.set a (true, .lst vs)) H H := by
            refine ⟨by rw [hlen]; exact Nat.le_refl _, fun _ _ => rfl, fun j a' b' => absurd b' (by rw [hlen]; omega), fun _ e => e, fun b o e _ => e, fun i c e => ?_⟩
            rw [List.getElem?_set_ne (by rintro rfl; rw [z] at e; cases e)]; exact e
          refine ⟨st, ⟨fun i j hi hj => r.inj i j (by rw [hlen] at hi; exact hi) (by rw [hlen] at hj; exact hj), fun i b c e => ?_⟩⟩
          rw [hlen]
          rcases set_get e with ⟨rfl, q⟩ | ⟨hi, q⟩
          · cases q
            obtain ⟨hl, xs, e1, e2⟩ := r.obj _ _ _ z
            exact ⟨hl, xs, .inl e1, e2⟩
          · exact r.obj i b c q
        | dct vs =>
          obtain ⟨od, xs, e1, _, rfl⟩ := l
          dsimp only
          have st : Stp ρ ρ h (h.set a (true, .dct vs)) H (upd H (ρ a) (.frz od (.dK xs))) := by
            refine ⟨by rw [hlen]; exact Nat.le_refl _, fun _ _ => rfl, fun j a' b' => absurd b' (by rw [hlen]; omega), fun b e => ?_, fun b o e hn => ?_, fun i c e => ?_⟩
            · by_cases hb : b = ρ a
              · rw [hb, upd_same] at e; cases e
              · rw [upd_ne hb] at e; exact e
            · rw [upd_ne (fun q => hn a _ z q.symm)]; exact e
            · rw [List.getElem?_set_ne (by rintro rfl; rw [z] at e; cases e)]; exact e
          refine ⟨st, ⟨fun i j hi hj => r.inj i j (by rw [hlen] at hi; exact hi) (by rw [hlen] at hj; exact hj), fun i b c e => ?_⟩⟩
          rw [hlen]
          rcases set_get e with ⟨rfl, q⟩ | ⟨hi, q⟩
          · cases q
            obtain ⟨hl, ys, e1', e2⟩ := r.obj _ _ _ z
            rw [e1] at e1'; cases e1'
            have e2' := e2.step r st
            rw [hlen] at e2'
            exact ⟨hl, od, xs, upd_same, e2'⟩
          · refine (r.obj i b c q).mono (fun _ _ => rfl) (Nat.le_refl _) (st.seqT r) (upd_ne fun p => hi (r.inj i a (lt_of_get q) (lt_of_get z) p))
theorem unlock_step {X : Cx} {ρ ρ3 : Nat → Addr} {h h3 : Heap} {H H2 H3 : Hp} {lk : Option Nat} (r : Rel g ρ h H) (l : LockR X ρ h H lk H2) (st : Stp ρ ρ3 (lockH h lk) h3 H2 H3) (r3 : Rel g ρ3 h3 H3) :
    ∃ H4, UnlR X H3 H4 ∧ Stp ρ ρ3 h (unlockH h h3 lk) H H4 ∧ Rel g ρ3 (unlockH h h3 lk) H4 ∧ Fx g.K H3 H4 := by
  obtain ⟨ls, lr⟩ := lock_step r l
  have st1 := ls.trans st
  cases lk with
  | none => exact ⟨H3, .inl rfl, st1, r3, ⟨fun _ _ e => e, fun _ _ e => e⟩⟩
  | some a =>
    unfold LockR at l
    unfold unlockH
    dsimp only at l ⊢
    cases z : h[a]? with
    | none => rw [z] at l; exact l.elim
    | some c =>
      obtain ⟨b, c⟩ := c
      rw [z] at l
      cases b with
      | true => exact ⟨H3, .inl rfl, st1, r3, ⟨fun _ _ e => e, fun _ _ e => e⟩⟩
      | false =>
        have ha : a < h.length := lt_of_get z
        have hl3 : (lockH h (some a))[a]? = some (true, c) := by
          unfold lockH
          dsimp only
          rw [z]
          exact List.getElem?_set_self ha
        have hc3 : h3[a]? = some (true, c) := st.lck a c hl3
        have hρ : ρ3 a = ρ a := st1.agr a ha
        have hlen : ∀ c', (h3.set a (false, c')).length = h3.length := fun c' => List.length_set
        cases c with
        | ins _ _ => exact l.elim
        | lst vs =>
          cases (show H2 = H from l)
          dsimp only
          obtain ⟨hl, xs, e1, e2⟩ := r.obj a false _ z
          have e3 : H3 (ρ a) = some (.lst xs) := st.frm _ _ e1 fun i c' ei er => by
            have hi := lt_of_get ei
            rw [lock_len] at hi
            have : i = a := r.inj i a hi ha er
            subst this
            rw [hl3] at ei; cases ei
          refine ⟨H3, .inl rfl, ⟨by rw [hlen]; exact st1.len, st1.agr, fun i h1' h2' => st1.new i h1' (by rw [hlen] at h2'; exact h2'), st1.kep, st1.frm, fun i c' e => ?_⟩, ⟨fun i j hi hj => r3.inj i j (by rw [hlen] at hi; exact hi) (by rw [hlen] at hj; exact hj), fun i b c' e => ?_⟩, ⟨fun _ _ e => e, fun _ _ e => e⟩⟩
          · rw [List.getElem?_set_ne (by rintro rfl; rw [z] at e; cases e)]; exact st1.lck i c' e
          · rw [hlen]
            rcases set_get e with ⟨rfl, q⟩ | ⟨hi, q⟩
            · cases q
              rw [hρ]
              obtain ⟨hl', ys, e1', e2'⟩ := r3.obj _ _ _ hc3
              rw [hρ, e3] at e1'
              rcases e1' with e1' | ⟨_, e1'⟩
              · cases e1'; exact ⟨hl', xs, e3, e2'⟩
              · cases e1'
            · exact r3.obj i b c' q
        | dct vs =>
          obtain ⟨od, xs, e1, nf, rfl⟩ := l
          dsimp only
          have e3 : H3 (ρ a) = some (.frz od (.dK xs)) := st.frm _ _ upd_same fun i c' ei er => by
            have hi := lt_of_get ei
            rw [lock_len] at hi
            have : i = a := r.inj i a hi ha er
            subst this
            rw [hl3] at ei; cases ei
          have seq4 : Fx g.K H3 (upd H3 (ρ a) (.dK xs)) := by
            refine ⟨fun b ys ⟨e, pe⟩ => ?_, fun b ns e => ?_⟩
            case refine_2 =>
              rcases e with ⟨o, e⟩ | e
              · exact .inl ⟨o, by rw [upd_ne (by rintro rfl; rw [e3] at e; cases e)]; exact e⟩
              · exact .inr e
            refine ⟨?_, fun zz => by
              obtain ⟨o, n, q | q, rest⟩ := pe zz
              · exact ⟨o, n, .inl (by rw [upd_ne (by rintro rfl; rw [e3] at q; cases q)]; exact q), rest⟩
              · exact ⟨o, n, .inr q, rest⟩⟩
            rcases e with (e | ⟨o, e⟩) | e
            · refine .inl (.inl ?_); rw [upd_ne (by rintro rfl; rw [e3] at e; cases e)]; exact e
            · refine .inl (.inr ⟨o, ?_⟩); rw [upd_ne (by rintro rfl; rw [e3] at e; cases e)]; exact e
            · exact .inr e
          refine ⟨upd H3 (ρ a) (.dK xs), .inr ⟨_, od, _, e3, nf, rfl⟩, ⟨by rw [hlen]; exact st1.len, st1.agr, fun i h1' h2' => st1.new i h1' (by rw [hlen] at h2'; exact h2'), fun b e => ?_, fun b o e hn => ?_, fun i c' e => ?_⟩, ⟨fun i j hi hj => r3.inj i j (by rw [hlen] at hi; exact hi) (by rw [hlen] at hj; exact hj), fun i b c' e => ?_⟩, seq4⟩
          · by_cases hb : b = ρ a
            · rw [hb, upd_same] at e; cases e
            · rw [upd_ne hb] at e; exact st1.kep b e
          · rw [upd_ne (fun q => hn a _ z q.symm)]; exact st1.frm b o e hn
          · rw [List.getElem?_set_ne (by rintro rfl; rw [z] at e; cases e)]; exact st1.lck i c' e
          · rw [hlen]
            rcases set_get e with ⟨rfl, q⟩ | ⟨hi, q⟩
            · cases q
              rw [hρ]
              obtain ⟨hl', o', ys, e1', e2'⟩ := r3.obj _ _ _ hc3
              rw [hρ, e3] at e1'
              cases e1'
              exact ⟨hl', xs, upd_same, e2'.mono (fun _ _ => rfl) (Nat.le_refl _) seq4⟩
            · exact (r3.obj i b c' q).mono (fun _ _ => rfl) (Nat.le_refl _) seq4 (upd_ne fun p => hi (r3.inj i a (lt_of_get q) (lt_of_get hc3) (p.trans hρ.symm)))

def unlD (X : Cx) (D : Ends) : Ends := ⟨fun σ H => ∃ H4, UnlR X H H4 ∧ D.nx σ H4, fun v H => ∃ H4, UnlR X H H4 ∧ D.rt v H4, fun σ H => ∃ H4, UnlR X H H4 ∧ D.bk σ H4, fun σ H => ∃ H4, UnlR X H H4 ∧ D.ct σ H4⟩
theorem inv_unl {X : Cx} {pins : List (Addr × Obj)} {σ : L2.St} {H H4 : Hp} {s : Shared} (I : Inv X pins σ H s) (u : UnlR X H H4) : Inv X pins σ H4 s := by
  rcases u with rfl | ⟨d, od, u, e, nf, rfl⟩
  · exact I
  · exact I.unlock e nf
theorem ss_unl {X : Cx} {st : Stmt} {D : Ends} {σ : L2.St} {H : Hp} (h : SSt X st (unlD X D) σ H) : SSt X st D σ H := fun pins s I => by
  refine thn (h pins s I) fun f s1 q => ?_
  cases f with
  | next => obtain ⟨σ', H', I2, H4, u, q⟩ := q; exact ⟨σ', H4, inv_unl I2 u, q⟩
  | brk => obtain ⟨σ', H', I2, H4, u, q⟩ := q; exact ⟨σ', H4, inv_unl I2 u, q⟩
  | cont => obtain ⟨σ', H', I2, H4, u, q⟩ := q; exact ⟨σ', H4, inv_unl I2 u, q⟩
  | ret v => obtain ⟨x, σ', H', I2, r, H4, u, q⟩ := q; exact ⟨x, σ', H4, inv_unl I2 u, r, q⟩

/-! ### for -/
def isSet : Expr → Bool
  | .Set .. => true
  | _ => false
theorem folded_no {e : Expr} (h : isSet e = false) (env : PySem.Env) : ∀ x, foldedSetIterable e env x = pure x := fun x => by
  cases e <;> first | rfl | cases h
theorem s_for {fi : Fi} {ft : Fg} {fb : Fs} {sl : List Nat} {tg it : Expr} {body : List Stmt} {pos : Pos} (hs : isSet it = false) (hx : ∀ v env h c fs h', ft v env h ≠ .ex c fs h') (hi : SoI g lv N sc fi tg it) (ht : SoG g lv N sc sl ft tg) (hb : SoSs g lv N sc fb body) :
    SoS g lv N sc (sFor fi ft fb) (.For tg it body [] pos) := by
  intro X W G ρ h H env σ D r er q
  refine ss_unl ?_
  refine (ps_for G.pown G.calm (self_i X tg it) (self_g X tg) (self_ss X body) (folded_no hs X.env)).se ?_
  refine hi X W G ρ h H env σ _ r er ?_
  have q' : QS g W ρ h H (liftS (fi env h) env fun src h1 => unlS h1 src.lk (forGo (fun v env h => liftS (ft v env h) env fb) src.xs env (lockH h1 src.lk))) D := q
  cases z : fi env h with
  | bad => rw [z] at q'; exact q'
  | ex c fs h' => rw [z] at q'; exact fun ρ' H' d xs s r' => q' ρ' H' σ d xs s r' (er.step r s)
  | ok src h1 =>
    rw [z] at q'
    obtain ⟨xs, lk⟩ := src
    intro ρ1 H1 H2 J S s1 r1 lr J1 S1
    dsimp only at lr J1 S1
    obtain ⟨ls, r2⟩ := lock_step r1 lr
    have q1 : QS g W ρ1 h1 H1 (unlS h1 lk (forGo (fun v env h => liftS (ft v env h) env fb) xs env (lockH h1 lk))) D := QS.step s1 q'
    have er2 := (er.step r s1).step r1 ls
    generalize hf : (fun v env h => liftS (ft v env h) env fb) = f at q1
    generalize hL : lockH h1 lk = hl at q1 ls r2 er2 S1
    -- ends
    have endN : ∀ ρ3 h3 H3 σ3 env3, Stp ρ1 ρ3 hl h3 H2 H3 → Rel g ρ3 h3 H3 → ER g ρ3 h3.length H3 env3 σ3 → QS g W ρ1 h1 H1 (unlS h1 lk (.nx env3 h3)) D → ∃ H4, UnlR X H3 H4 ∧ D.nx σ3 H4 := fun ρ3 h3 H3 σ3 env3 st3 r3 er3 qq => by
      rw [← hL] at st3
      obtain ⟨H4, u, st4, r4, sq⟩ := unlock_step r1 lr st3 r3
      refine ⟨H4, u, qq ρ3 H4 σ3 st4 r4 ?_⟩
      rw [unlock_len]
      exact ⟨er3.len, fun i v ev => let ⟨x, a, b⟩ := er3.val i v ev; ⟨x, a, b.mono (fun _ _ => rfl) (Nat.le_refl _) sq⟩⟩
    refine ⟨fun i m σ' H' => m = xs.length - i ∧ i ≤ xs.length ∧ ∃ ρ' h' env', Stp ρ1 ρ' hl h' H2 H' ∧ Rel g ρ' h' H' ∧ ER g ρ' h'.length H' env' σ' ∧ S ρ' h' H' ∧ forGo f xs env hl = forGo f (xs.drop i) env' h', ⟨xs.length, rfl, Nat.zero_le _, ρ1, hl, env, Stp.refl .., r2, er2, S1, rfl⟩, ?_⟩
    rintro i m σ' H' ⟨rfl, hi, ρ', h', env', st, rl, er', S', eq⟩
    by_cases hlt : i < xs.length
    · refine .inr ⟨J1.go ρ' h' H' i S' rl hlt, fun σ'' H'' => ∃ m', m' < xs.length - i ∧ (m' = xs.length - (i + 1) ∧ i + 1 ≤ xs.length ∧ ∃ ρ' h' env', Stp ρ1 ρ' hl h' H2 H'' ∧ Rel g ρ' h' H'' ∧ ER g ρ' h'.length H'' env' σ'' ∧ S ρ' h' H'' ∧ forGo f xs env hl = forGo f (xs.drop (i + 1)) env' h'), fun σ'' H'' z => z, fun x H'' y => ?_⟩
      have hget : xs[i]? = some xs[i] := by simp [hlt]
      obtain ⟨sy, ry, vy⟩ := J1.yld ρ' h' H' i xs[i] x H'' S' rl hget y
      have hdrop : xs.drop i = xs[i] :: xs.drop (i + 1) := List.drop_eq_getElem_cons hlt
      rw [hdrop] at eq
      have ery := er'.step rl sy
      have Sy := J1.step _ _ _ _ _ _ S' rl sy
      refine ht X W G ρ' h' H'' env' σ' xs[i] x _ ry ery vy ?_
      rw [← hf] at eq
      simp only [forGo] at eq
      cases zt : ft xs[i] env' h' with
      | bad => rw [zt] at eq; rw [← hf] at q1; rw [eq] at q1; exact q1
      | ex c fs h'' => exact absurd zt (hx _ _ _ _ _ _)
      | ok env2 h2 =>
        rw [zt] at eq
        intro ρ2 H2' σ2 st2 rl2 er2' _
        have S2 := J1.step _ _ _ _ _ _ Sy ry st2
        have stAll : Stp ρ1 ρ2 hl h2 H2 H2' := (st.trans sy).trans st2
        refine hb X W G ρ2 h2 H2' env2 σ2 _ rl2 er2' ?_
        have eq2 : forGo (fun v env h => liftS (ft v env h) env fb) xs env hl = match fb env2 h2 with
          | .nx e h => forGo (fun v env h => liftS (ft v env h) env fb) (xs.drop (i + 1)) e h
          | .ct e h => forGo (fun v env h => liftS (ft v env h) env fb) (xs.drop (i + 1)) e h
          | .bk e h => .nx e h
          | q => q := eq
        cases zb : fb env2 h2 with
        | nx env3 h3 =>
          rw [zb, hf] at eq2
          intro ρ3 H3 σ3 st3 r3 er3
          exact ⟨xs.length - (i + 1), by omega, rfl, hlt, ρ3, h3, env3, stAll.trans st3, r3, er3, J1.step _ _ _ _ _ _ S2 rl2 st3, eq2⟩
        | ct env3 h3 =>
          rw [zb, hf] at eq2
          intro ρ3 H3 σ3 st3 r3 er3
          exact ⟨xs.length - (i + 1), by omega, rfl, hlt, ρ3, h3, env3, stAll.trans st3, r3, er3, J1.step _ _ _ _ _ _ S2 rl2 st3, eq2⟩
        | bk env3 h3 =>
          rw [zb, hf] at eq2
          rw [eq2] at q1
          intro ρ3 H3 σ3 st3 r3 er3
          exact endN ρ3 h3 H3 σ3 env3 (stAll.trans st3) r3 er3 q1
        | rt v h3 =>
          rw [zb, hf] at eq2
          rw [eq2] at q1
          intro ρ3 H3 y3 st3 r3 v3
          have st3' := stAll.trans st3
          rw [← hL] at st3'
          obtain ⟨H4, u, st4, r4, sq⟩ := unlock_step r1 lr st3' r3
          refine ⟨H4, u, q1 ρ3 H4 y3 st4 r4 ?_⟩
          rw [unlock_len]
          exact v3.mono (fun _ _ => rfl) (Nat.le_refl _) sq
        | ex env3 c fs h3 =>
          rw [zb, hf] at eq2
          rw [eq2] at q1
          intro ρ3 H3 σ3 d xs3 st3 r3 er3 e3 k3
          exact q1 ρ3 H3 σ3 d xs3 (ls.trans (stAll.trans st3)) r3 er3 e3 k3
        | bad =>
          rw [zb, hf] at eq2
          rw [eq2] at q1
          exact q1
    · have e : i = xs.length := by omega
      subst e
      refine .inl ⟨J1.stop ρ' h' H' S' rl, ?_⟩
      rw [List.drop_length] at eq
      rw [eq] at q1
      exact endN ρ' h' H' σ' env' st rl er' q1

/-! ### while -/
def whileGo (fc : Env → Heap → Rs Bool) (fb : Fs) : Nat → Fs
  | 0, _, _ => .bad
  | n + 1, env, h => liftS (fc env h) env fun b h1 => if b then (match fb env h1 with
      | .nx e h => whileGo fc fb n e h
      | .ct e h => whileGo fc fb n e h
      | .bk e h => .nx e h
      | q => q) else .nx env h1
theorem s_while {fc : Env → Heap → Rs Bool} {fb : Fs} {n : Nat} {c : Expr} {body : List Stmt} {pos : Pos} (hc : SoT g lv N sc fc c) (hb : SoSs g lv N sc fb body) : SoS g lv N sc (whileGo fc fb n) (.While c body [] pos) := by
  intro X W G ρ h H env σ D r er q
  refine (ps_while G.pown (self_t X c) (self_ss X body)).se ?_
  refine ⟨fun m σ' H' => ∃ ρ' h' env', Stp ρ ρ' h h' H H' ∧ Rel g ρ' h' H' ∧ ER g ρ' h'.length H' env' σ' ∧ QS g W ρ' h' H' (whileGo fc fb m env' h') D, ⟨n, ρ, h, env, Stp.refl .., r, er, q⟩, ?_⟩
  rintro m σ' H' ⟨ρ', h', env', st, rl, er', q'⟩
  cases m with
  | zero => exact q'.elim
  | succ m =>
    have q2 : QS g W ρ' h' H' (liftS (fc env' h') env' fun b h1 => if b then (match fb env' h1 with
      | .nx e h => whileGo fc fb m e h
      | .ct e h => whileGo fc fb m e h
      | .bk e h => .nx e h
      | q => q) else .nx env' h1) D := q'
    refine hc X W G ρ' h' H' env' σ' _ rl er' (QR.imp (QS.lift rl er' q2) fun b H1 ⟨ρ1, h1, b', s1, r1, t1, _, q3⟩ => ?_)
    cases t1
    have er1 := er'.step rl s1
    cases b with
    | false => exact q3 ρ1 H1 σ' (Stp.refl ..) r1 er1
    | true =>
      refine ⟨fun σ'' H'' => ∃ m', m' < m + 1 ∧ ∃ ρ' h' env', Stp ρ ρ' h h' H H'' ∧ Rel g ρ' h' H'' ∧ ER g ρ' h'.length H'' env' σ'' ∧ QS g W ρ' h' H'' (whileGo fc fb m' env' h') D, fun σ'' H'' z => z, ?_⟩
      refine hb X W G ρ1 h1 H1 env' σ' _ r1 er1 ?_
      simp only [if_true] at q3
      cases zb : fb env' h1 with
      | nx env3 h3 =>
        rw [zb] at q3
        intro ρ3 H3 σ3 st3 r3 er3
        exact ⟨m, Nat.lt_succ_self _, ρ3, h3, env3, (st.trans s1).trans st3, r3, er3, QS.step st3 q3⟩
      | ct env3 h3 =>
        rw [zb] at q3
        intro ρ3 H3 σ3 st3 r3 er3
        exact ⟨m, Nat.lt_succ_self _, ρ3, h3, env3, (st.trans s1).trans st3, r3, er3, QS.step st3 q3⟩
      | bk env3 h3 => rw [zb] at q3; exact q3
      | rt v h3 => rw [zb] at q3; exact q3
      | ex env3 c fs h3 => rw [zb] at q3; exact q3
      | bad => rw [zb] at q3; exact q3
end
end MP
end

section
/-! MP, part L: sources of loops; comprehensions. -/
set_option autoImplicit false
set_option linter.all false
namespace MP
open PySem L2
section
variable {g : G} {lv : Nat} {N : List Str} {sc : Scope}

theorem QI.bind {X : Cx} {α β : Type} {T : (Nat → Addr) → Nat → Hp → α → β → Prop} {W : WX} {ρ : Nat → Addr} {h : Heap} {H : Hp} {σ : L2.St} {r : Rs α} {f : α → Heap → Rs Src} {R : L2.It → Hp → Prop} (q : QI g X W ρ h H σ (r.bind f) R) :
    QR g T W ρ h H σ r fun b H1 => ∃ ρ1 h1 a, Stp ρ ρ1 h h1 H H1 ∧ Rel g ρ1 h1 H1 ∧ T ρ1 h1.length H1 a b ∧ r = .ok a h1 ∧ QI g X W ρ1 h1 H1 σ (f a h1) R := by
  cases r with
  | ok a h' =>
    refine fun ρ' H' b s r t => ⟨ρ', h', a, s, r, t, rfl, ?_⟩
    have q' : QI g X W ρ h H σ (f a h') R := q
    cases z : f a h' with
    | ok src h1 => rw [z] at q'; exact fun ρ1 H1 H2 J S s1 => q' ρ1 H1 H2 J S (s.trans s1)
    | ex c fs h1 => rw [z] at q'; exact fun ρ1 H1 d xs s1 => q' ρ1 H1 d xs (s.trans s1)
    | bad => rw [z] at q'; exact q'
  | ex c fs h' => exact q
  | bad => exact q
theorem VRs.get {ρ : Nat → Addr} {n : Nat} {H : Hp} : ∀ {vs : List Val} {xs : List L2.V} {i : Nat} {v : Val}, VRs g ρ n H vs xs → vs[i]? = some v → ∃ x, xs[i]? = some x ∧ VR g ρ n H v x
  | [], _, _, _, _, e => by simp at e
  | u :: vs, xs, i, v, t, e => by
    rw [VRs] at t
    obtain ⟨x, r, rfl, t1, t2⟩ := t
    cases i with
    | zero => simp at e; subst e; exact ⟨x, rfl, t1⟩
    | succ i =>
      obtain ⟨y, a, b⟩ := VRs.get (i := i) t2 (by simpa using e)
      exact ⟨y, by simpa using a, b⟩

/-! ### the sources -/
theorem src_list {K : PySem.W.Frag} (hK : K = g.K) {a : Nat} {a0 : Addr} {xs : List Val} : SrcOk g (Itl K a0) xs (fun ρ h _ => h[a]? = some (true, .lst xs) ∧ ρ a = a0) := by
  subst hK
  have key : ∀ (ρ : Nat → Addr) (h : Heap) (H : Hp), (h[a]? = some (true, .lst xs) ∧ ρ a = a0) → Rel g ρ h H → ∃ ys, SqL g.K H a0 ys ∧ VRs g ρ h.length H xs ys := fun ρ h H S r => by
    obtain ⟨ys, e1, e2, _⟩ := r.lst (i := a) (vs := xs) (by unfold rd; rw [S.1]; rfl)
    rw [S.2] at e1
    exact ⟨ys, e1, e2⟩
  refine ⟨fun ρ h H i S r hi => ?_, fun ρ h H S r => ?_, fun ρ h H i v x H' S r e y => ?_, fun ρ ρ' h h' H H' S r st => ?_⟩
  · obtain ⟨ys, e1, e2⟩ := key ρ h H S r
    exact ⟨ys, ys[i]'(by rw [← e2.length]; exact hi), e1, by simp [← e2.length, hi]⟩
  · obtain ⟨ys, e1, e2⟩ := key ρ h H S r
    exact ⟨ys, e1, by rw [e2.length]; exact Nat.le_refl _⟩
  · obtain ⟨rfl, y⟩ := y
    obtain ⟨ys, e1, e2⟩ := key ρ h _ S r
    obtain ⟨z, a1, a2⟩ := e2.get e
    have := y ys e1
    rw [a1] at this; cases this
    exact ⟨Stp.refl .., r, a2⟩
  · exact ⟨st.lck a _ S.1, by rw [st.agr a (lt_of_get S.1)]; exact S.2⟩
theorem VRs.ints {ρ : Nat → Addr} {n : Nat} {H : Hp} : ∀ (ns : List Int), VRs g ρ n H (ns.map Val.int) (ns.map L2.V.int)
  | [] => by show VRs g ρ n H [] []; rw [VRs]
  | i :: ns => by
    rw [List.map_cons, List.map_cons, VRs]
    exact ⟨_, _, rfl, VR.int, VRs.ints ns⟩
theorem src_scr {K : PySem.W.Frag} (hK : K = g.K) {a0 : Addr} {ns : List Int} : SrcOk g (Itl K a0) (ns.map Val.int) (fun ρ h H => ScrAt g.K H a0 ns) := by
  subst hK
  refine ⟨fun ρ h H i S r hi => ?_, fun ρ h H S r => ?_, fun ρ h H i v x H' S r e y => ?_, fun ρ ρ' h h' H H' S r st => (st.seqT r).scr _ _ S⟩
  · rw [List.length_map] at hi
    exact ⟨_, L2.V.int ns[i], S.sq, by simp [hi]⟩
  · exact ⟨_, S.sq, by simp⟩
  · obtain ⟨rfl, y⟩ := y
    have := y _ S.sq
    rw [List.getElem?_map] at this e
    obtain ⟨j, e1, e2⟩ := Option.map_eq_some_iff.mp e
    rw [e1] at this
    cases e2
    cases this
    exact ⟨Stp.refl .., r, VR.int⟩
theorem src_tup {K : PySem.W.Frag} (hK : K = g.K) {a0 : Addr} {xs : List Val} {ys : List L2.V} : SrcOk g (Itt K a0) xs (fun ρ h H => TupAt g.K H a0 ys ∧ VRs g ρ h.length H xs ys) := by
  subst hK
  refine ⟨fun ρ h H i S r hi => ?_, fun ρ h H S r => ?_, fun ρ h H i v x H' S r e y => ?_, fun ρ ρ' h h' H H' S r st => ?_⟩
  · exact ⟨ys, ys[i]'(by rw [← S.2.length]; exact hi), S.1.1, by simp [← S.2.length, hi]⟩
  · exact ⟨ys, S.1.1, by rw [S.2.length]; exact Nat.le_refl _⟩
  · obtain ⟨rfl, y⟩ := y
    obtain ⟨z, a1, a2⟩ := S.2.get e
    have := y ys S.1.1
    rw [a1] at this; cases this
    exact ⟨Stp.refl .., r, a2⟩
  · exact ⟨(st.seqT r).tup _ _ S.1, S.2.step r st⟩
def rngV (lo : Int) (n : Nat) : List Val := (List.range n).map fun (i : Nat) => Val.int (lo + (i : Int))
theorem src_rng {lo : Int} {n : Nat} : SrcOk g (Itr lo n) (rngV lo n) (fun _ _ _ => True) := by
  have hl : (rngV lo n).length = n := by simp [rngV]
  refine ⟨fun ρ h H i S r hi => by rw [hl] at hi; exact hi, fun ρ h H S r => by rw [hl]; exact Nat.le_refl _, fun ρ h H i v x H' S r e y => ?_, fun _ _ _ _ _ _ _ _ _ => True.intro⟩
  obtain ⟨rfl, rfl⟩ := y
  have hi := lt_of_get e
  rw [hl] at hi
  simp [rngV, hi] at e
  subst e
  exact ⟨Stp.refl .., r, VR.int⟩
def strV (z : Str) : List Val := z.cps.toList.map fun c => Val.str ⟨#[c]⟩
theorem src_str {z : Str} : SrcOk g (Its z) (strV z) (fun _ _ _ => True) := by
  have hl : (strV z).length = z.cps.size := by simp [strV]
  refine ⟨fun ρ h H i S r hi => by rw [hl] at hi; exact hi, fun ρ h H S r => by rw [hl]; exact Nat.le_refl _, fun ρ h H i v x H' S r e y => ?_, fun _ _ _ _ _ _ _ _ _ => True.intro⟩
  obtain ⟨rfl, c, ec, rfl⟩ := y
  have : (strV z)[i]? = some (.str ⟨#[c]⟩) := by
    unfold strV
    rw [List.getElem?_map, Array.getElem?_toList, ec]
    rfl
  rw [this] at e; cases e
  exact ⟨Stp.refl .., r, VR.str (by show (1 : Nat) ≤ sizeLine; decide)⟩
/-- a dict that is locked -/
def DS (a : Nat) (d : Addr) (od : Obj) (kvs : List (Key × Val)) (ys : List (Key × L2.V)) : (Nat → Addr) → Heap → Hp → Prop := fun ρ h H => h[a]? = some (true, .dct kvs) ∧ ρ a = d ∧ H d = some (.frz od (.dK ys))
theorem DS.kr {a : Nat} {d : Addr} {od : Obj} {kvs : List (Key × Val)} {ys : List (Key × L2.V)} {ρ : Nat → Addr} {h : Heap} {H : Hp} (S : DS a d od kvs ys ρ h H) (r : Rel g ρ h H) : KR g ρ h.length H kvs ys ∧ DLen kvs := by
  obtain ⟨e1, e2, e3⟩ := S
  obtain ⟨hl, o, xs, a1, a2⟩ := r.obj a true _ e1
  rw [e2, e3] at a1
  cases a1
  exact ⟨a2, hl⟩
theorem DS.step {a : Nat} {d : Addr} {od : Obj} {kvs : List (Key × Val)} {ys : List (Key × L2.V)} {ρ ρ' : Nat → Addr} {h h' : Heap} {H H' : Hp} (S : DS a d od kvs ys ρ h H) (r : Rel g ρ h H) (st : Stp ρ ρ' h h' H H') : DS a d od kvs ys ρ' h' H' := by
  obtain ⟨e1, e2, e3⟩ := S
  refine ⟨st.lck a _ e1, by rw [st.agr a (lt_of_get e1)]; exact e2, st.frm d _ e3 fun i c ei er => ?_⟩
  have : i = a := r.inj i a (lt_of_get ei) (lt_of_get e1) (er.trans e2.symm)
  subst this
  rw [e1] at ei; cases ei
theorem KR.get {κ : Type} {ρ : Nat → Addr} {n : Nat} {H : Hp} : ∀ {vs : List (κ × Val)} {xs : List (κ × L2.V)} {i : Nat} {k : κ} {v : Val}, KR g ρ n H vs xs → vs[i]? = some (k, v) → ∃ x, xs[i]? = some (k, x) ∧ VR g ρ n H v x
  | [], _, _, _, _, _, e => by simp at e
  | (k', u) :: vs, xs, i, k, v, t, e => by
    rw [KR] at t
    obtain ⟨x, r, rfl, t1, t2⟩ := t
    cases i with
    | zero => simp at e; obtain ⟨rfl, rfl⟩ := e; exact ⟨x, rfl, t1⟩
    | succ i =>
      obtain ⟨y, a, b⟩ := KR.get (i := i) t2 (by simpa using e)
      exact ⟨y, by simpa using a, b⟩
theorem VR.key {ρ : Nat → Addr} {n : Nat} {H : Hp} {k : Key} (h : KOk k) : VR g ρ n H (vKey k) (kV k) := by
  cases k with
  | inl i => exact VR.int
  | inr x => exact VR.str h
theorem map_get {α β : Type} {l : List α} {f : α → β} {i : Nat} {b : β} (e : (l.map f)[i]? = some b) : ∃ a, l[i]? = some a ∧ f a = b := by
  rw [List.getElem?_map] at e
  cases z : l[i]? with
  | none => rw [z] at e; cases e
  | some a => rw [z] at e; exact ⟨a, rfl, Option.some.inj e⟩
theorem src_keys {a : Nat} {d : Addr} {od : Obj} {kvs : List (Key × Val)} {ys : List (Key × L2.V)} : SrcOk g (Itk d od ys) (kvs.map fun kv => vKey kv.1) (DS a d od kvs ys) := by
  refine ⟨fun ρ h H i S r hi => ⟨S.2.2, ?_⟩, fun ρ h H S r => ⟨S.2.2, ?_⟩, fun ρ h H i v x H' S r e y => ?_, fun ρ ρ' h h' H H' S r st => S.step r st⟩
  · rw [← (S.kr r).1.length]; simpa using hi
  · rw [← (S.kr r).1.length]; simp
  · obtain ⟨rfl, k, w, ek, rfl⟩ := y
    obtain ⟨⟨k', v'⟩, e1, rfl⟩ := map_get e
    obtain ⟨z, a1, a2⟩ := (S.kr r).1.get e1
    rw [a1] at ek; cases ek
    exact ⟨Stp.refl .., r, VR.key ((S.kr r).2.2 _ (List.mem_of_getElem? e1))⟩
theorem src_vals {a : Nat} {d : Addr} {od : Obj} {kvs : List (Key × Val)} {ys : List (Key × L2.V)} : SrcOk g (Itd d od ys) (kvs.map fun kv => kv.2) (DS a d od kvs ys) := by
  refine ⟨fun ρ h H i S r hi => ⟨S.2.2, ?_⟩, fun ρ h H S r => ⟨S.2.2, ?_⟩, fun ρ h H i v x H' S r e y => ?_, fun ρ ρ' h h' H H' S r st => S.step r st⟩
  · rw [← (S.kr r).1.length]; simpa using hi
  · rw [← (S.kr r).1.length]; simp
  · obtain ⟨rfl, k, ek⟩ := y
    obtain ⟨⟨k', v'⟩, e1, rfl⟩ := map_get e
    obtain ⟨z, a1, a2⟩ := (S.kr r).1.get e1
    rw [a1] at ek; cases ek
    exact ⟨Stp.refl .., r, a2⟩
theorem src_items {a : Nat} {d : Addr} {od : Obj} {kvs : List (Key × Val)} {ys : List (Key × L2.V)} : SrcOk g (Iti d od ys) (kvs.map fun kv => Val.tup [vKey kv.1, kv.2]) (DS a d od kvs ys) := by
  refine ⟨fun ρ h H i S r hi => ⟨S.2.2, ?_⟩, fun ρ h H S r => ⟨S.2.2, ?_⟩, fun ρ h H i v x H' S r e y => ?_, fun ρ ρ' h h' H H' S r st => S.step r st⟩
  · rw [← (S.kr r).1.length]; simpa using hi
  · rw [← (S.kr r).1.length]; simp
  · obtain ⟨T, k, w, ek, rfl, hT, rfl⟩ := y
    obtain ⟨⟨k', v'⟩, e1, rfl⟩ := map_get e
    obtain ⟨z, a1, a2⟩ := (S.kr r).1.get e1
    rw [a1] at ek; cases ek
    refine ⟨Stp.fresh r hT, r.fresh hT, ?_⟩
    rw [VR]
    refine ⟨T, _, rfl, ⟨.inl (.inl upd_same), fun z => nomatch z⟩, ?_⟩
    rw [VRs]
    refine ⟨_, _, rfl, VR.key ((S.kr r).2.2 _ (List.mem_of_getElem? e1)), ?_⟩
    rw [VRs]
    exact ⟨_, _, rfl, a2.step r (Stp.fresh r hT), by rw [VRs]⟩

/-! ### iter(..) -/
/-- the value of e, locked if it is wanted -/
theorem pe_lockO {X : Cx} {e : Expr} {t : TE} (h : PE X e t) : PE X e (fun σ H Q => t σ H fun x H1 => (∃ d u, x = .ref d ∧ H1 d = some u ∧ Mut (some u) ∧ ∀ od, (∀ o' u', X.H_0 d ≠ some (.frz o' u')) → Q x (upd H1 d (.frz od u))) ∨ Q x H1) := by
  refine ⟨fun pins s σ H Q I hw => ?_⟩
  refine thn (h.run pins s σ H _ I hw) fun v s1 ⟨x, H1, I1, rx, q⟩ => ?_
  rcases q with ⟨d, u, rfl, hd, mu, q⟩ | q
  · obtain ⟨od, I2⟩ := I1.lock hd mu
    exact ⟨_, _, I2, rx, q od (I1.nofrz hd mu)⟩
  · exact ⟨x, H1, I1, rx, q⟩
def srcV (v : Val) (h : Heap) : Rs Src := match v with
  | .scr ns => .ok ⟨ns.map Val.int, none⟩ h
  | .tup xs => .ok ⟨xs, none⟩ h
  | .str z => .ok ⟨strV z, none⟩ h
  | .ref a => (match rd h a with
    | some (.lst xs) => .ok ⟨xs, some a⟩ h
    | some (.dct kvs) => .ok ⟨kvs.map fun kv => vKey kv.1, some a⟩ h
    | _ => .bad)
  | _ => .bad
theorem rd_cell {h : Heap} {a : Nat} {c : B} (e : rd h a = some c) : ∃ b, h[a]? = some (b, c) := by
  unfold rd at e
  cases z : h[a]? with
  | none => rw [z] at e; cases e
  | some p => obtain ⟨b, c'⟩ := p; rw [z] at e; cases e; exact ⟨b, rfl⟩
theorem lock_at {h : Heap} {a : Nat} {b : Bool} {c : B} (e : h[a]? = some (b, c)) : (lockH h (some a))[a]? = some (true, c) := by
  unfold lockH
  dsimp only
  rw [e]
  cases b with
  | false => exact List.getElem?_set_self (lt_of_get e)
  | true => exact e
/-- a dict at hand: locked, or now locked -/
theorem dict_lock {X : Cx} {ρ : Nat → Addr} {h : Heap} {H : Hp} (r : Rel g ρ h H) {a : Nat} {kvs : List (Key × Val)} (e : rd h a = some (.dct kvs)) {Q : Addr → Obj → List (Key × L2.V) → Hp → Prop}
    (k : ∀ od ys H2, LockR X ρ h H (some a) H2 → DS a (ρ a) od kvs ys ρ (lockH h (some a)) H2 → Q (ρ a) od ys H2) :
    (∃ u, H (ρ a) = some u ∧ Mut (some u) ∧ ∀ od, (∀ o' u', X.H_0 (ρ a) ≠ some (.frz o' u')) → ∃ ys, u = .dK ys ∧ Q (ρ a) od ys (upd H (ρ a) (.frz od u))) ∨ ∃ od ys, H (ρ a) = some (.frz od (.dK ys)) ∧ Q (ρ a) od ys H := by
  obtain ⟨b, z⟩ := rd_cell e
  cases b with
  | false =>
    obtain ⟨hl, xs, e1, e2⟩ := r.obj a false _ z
    refine .inl ⟨_, e1, True.intro, fun od nf => ⟨xs, rfl, ?_⟩⟩
    refine k od xs _ ?_ ⟨lock_at z, rfl, upd_same⟩
    unfold LockR
    dsimp only
    rw [z]
    exact ⟨od, xs, e1, nf, rfl⟩
  | true =>
    obtain ⟨hl, o, xs, e1, e2⟩ := r.obj a true _ z
    refine .inr ⟨o, xs, e1, ?_⟩
    refine k o xs _ ?_ ⟨lock_at z, rfl, e1⟩
    unfold LockR
    dsimp only
    rw [z]
theorem i_val {f : Fe} {tg e : Expr} (he : SoE g lv N sc f e) : SoI g lv N sc (fun env h => (f env h).bind srcV) tg e := by
  intro X W G ρ h H env σ R r er q
  have q1 := QI.bind (T := VR g) q
  cases z : f env h with
  | bad => rw [z] at q1; exact q1.elim
  | ex c fs h' =>
    refine (pi_list (self_e X e)).se ?_
    refine he X W G ρ h H env σ _ r er (QR.imp q1 fun x H1 ⟨ρ1, h1, v, s1, r1, t1, Ea, q2⟩ => ?_)
    rw [z] at Ea; cases Ea
  | ok v0 h0 =>
    cases v0 with
    | tup xs =>
      refine (pi_tup (self_e X e)).se ?_
      refine he X W G ρ h H env σ _ r er (QR.imp q1 fun x H1 ⟨ρ1, h1, v, s1, r1, t1, Ea, q2⟩ => ?_)
      rw [z] at Ea; cases Ea
      obtain ⟨a, ys, rfl, e1, e2⟩ := t1.of_tupA
      exact ⟨a, rfl, ⟨ys, by rw [G.hK]; exact e1.1⟩, q2 ρ1 H1 H1 _ _ (Stp.refl ..) r1 rfl (src_tup (ys := ys) G.hK) ⟨e1, e2⟩⟩
    | scr ns =>
      refine (pi_list (self_e X e)).se ?_
      refine he X W G ρ h H env σ _ r er (QR.imp q1 fun x H1 ⟨ρ1, h1, v, s1, r1, t1, Ea, q2⟩ => ?_)
      rw [z] at Ea; cases Ea
      rw [VR] at t1
      obtain ⟨a, rfl, e1⟩ := t1
      exact ⟨a, rfl, ⟨_, by rw [G.hK]; exact e1.sq⟩, q2 ρ1 H1 H1 _ _ (Stp.refl ..) r1 rfl (src_scr G.hK) e1⟩
    | str s =>
      refine (pi_str (self_e X e)).se ?_
      refine he X W G ρ h H env σ _ r er (QR.imp q1 fun x H1 ⟨ρ1, h1, v, s1, r1, t1, Ea, q2⟩ => ?_)
      rw [z] at Ea; cases Ea
      exact ⟨s, t1.of_str.1, q2 ρ1 H1 H1 _ _ (Stp.refl ..) r1 rfl src_str True.intro⟩
    | ref a =>
      cases zr : rd h0 a with
      | none =>
        have qq : QI g X W ρ h H σ (srcV (.ref a) h0) R := by have q' := q; simp only [z] at q'; exact q'
        simp only [srcV, zr] at qq
        exact qq.elim
      | some c =>
        cases c with
        | ins _ _ =>
          have qq : QI g X W ρ h H σ (srcV (.ref a) h0) R := by have q' := q; simp only [z] at q'; exact q'
          simp only [srcV, zr] at qq; exact qq.elim
        | lst xs =>
          refine (pi_list (self_e X e)).se ?_
          refine he X W G ρ h H env σ _ r er (QR.imp q1 fun x H1 ⟨ρ1, h1, v, s1, r1, t1, Ea, q2⟩ => ?_)
          rw [z] at Ea; cases Ea
          obtain ⟨ha, rfl⟩ := t1.of_ref
          obtain ⟨ys, e1, e2, _⟩ := r1.lst zr
          obtain ⟨b, zc⟩ := rd_cell zr
          simp only [srcV, zr] at q2
          refine ⟨_, rfl, ⟨ys, by rw [G.hK]; exact e1⟩, q2 ρ1 H1 H1 _ _ (Stp.refl ..) r1 ?_ (src_list G.hK) ⟨lock_at zc, rfl⟩⟩
          unfold LockR
          dsimp only
          rw [zc]
          cases b <;> rfl
        | dct kvs =>
          refine (pi_keys (pe_lockO (self_e X e))).se ?_
          refine he X W G ρ h H env σ _ r er (QR.imp q1 fun x H1 ⟨ρ1, h1, v, s1, r1, t1, Ea, q2⟩ => ?_)
          rw [z] at Ea; cases Ea
          obtain ⟨ha, rfl⟩ := t1.of_ref
          simp only [srcV, zr] at q2
          rcases dict_lock (X := X) (Q := fun d od ys H2 => R (Itk d od ys) H2) r1 zr (fun od ys H2 l S => q2 ρ1 H1 H2 _ _ (Stp.refl ..) r1 l src_keys S) with ⟨u, e1, mu, k⟩ | ⟨od, ys, e1, k⟩
          · refine .inl ⟨_, u, rfl, e1, mu, fun od nf => ?_⟩
            obtain ⟨ys, rfl, k⟩ := k od nf
            exact ⟨_, od, rfl, .inl ⟨ys, upd_same, k⟩⟩
          · exact .inr ⟨_, od, rfl, .inl ⟨ys, e1, k⟩⟩
    | _ =>
      have q' := q
      simp only [z] at q'
      exact (show False from q').elim
def srcI (v : Val) (h : Heap) : Rs Src := match v with
  | .ref a => (match rd h a with
    | some (.dct kvs) => .ok ⟨kvs.map fun kv => Val.tup [vKey kv.1, kv.2], some a⟩ h
    | _ => .bad)
  | _ => .bad
def srcW (v : Val) (h : Heap) : Rs Src := match v with
  | .ref a => (match rd h a with
    | some (.dct kvs) => .ok ⟨kvs.map fun kv => kv.2, some a⟩ h
    | _ => .bad)
  | _ => .bad
theorem i_items {f : Fe} {e : Expr} {elts : List Expr} {kk : Nat} {tpos apos cpos : Pos} (hb : noSuper e = true) (hl : (apos.endLine == cpos.line) = true) (he : SoE g lv N sc f e) :
    SoI g lv N sc (fun env h => (f env h).bind srcI) (.Tuple elts kk tpos) (.Call (.Attribute e "items" apos) [] [] cpos) := by
  intro X W G ρ h H env σ R r er q
  refine (pi_items (pe_lockO (self_e X e)) (base_plain hb _ X.env _) hl).se ?_
  refine he X W G ρ h H env σ _ r er (QR.imp (QI.bind (T := VR g) q) fun x H1 ⟨ρ1, h1, v, s1, r1, t1, _, q2⟩ => ?_)
  cases v with
  | ref a =>
    obtain ⟨ha, rfl⟩ := t1.of_ref
    cases zr : rd h1 a with
    | none => simp only [srcI, zr] at q2; exact q2.elim
    | some c =>
      cases c with
      | dct kvs =>
        simp only [srcI, zr] at q2
        rcases dict_lock (X := X) (Q := fun d od ys H2 => R (Iti d od ys) H2) r1 zr (fun od ys H2 l S => q2 ρ1 H1 H2 _ _ (Stp.refl ..) r1 l src_items S) with ⟨u, e1, mu, k⟩ | ⟨od, ys, e1, k⟩
        · refine .inl ⟨_, u, rfl, e1, mu, fun od nf => ?_⟩
          obtain ⟨ys, rfl, k⟩ := k od nf
          exact ⟨_, od, ys, rfl, upd_same, k⟩
        · exact .inr ⟨_, od, ys, rfl, e1, k⟩
      | lst _ => simp only [srcI, zr] at q2; exact q2.elim
      | ins _ _ => simp only [srcI, zr] at q2; exact q2.elim
  | _ => exact q2.elim
theorem i_vals {f : Fe} {tg e : Expr} {apos cpos : Pos} (hb : noSuper e = true) (hl : (apos.endLine == cpos.line) = true) (he : SoE g lv N sc f e) :
    SoI g lv N sc (fun env h => (f env h).bind srcW) tg (.Call (.Attribute e "values" apos) [] [] cpos) := by
  intro X W G ρ h H env σ R r er q
  refine (pi_values (pe_lockO (self_e X e)) (base_plain hb _ X.env _) hl).se ?_
  refine he X W G ρ h H env σ _ r er (QR.imp (QI.bind (T := VR g) q) fun x H1 ⟨ρ1, h1, v, s1, r1, t1, _, q2⟩ => ?_)
  cases v with
  | ref a =>
    obtain ⟨ha, rfl⟩ := t1.of_ref
    cases zr : rd h1 a with
    | none => simp only [srcW, zr] at q2; exact q2.elim
    | some c =>
      cases c with
      | dct kvs =>
        simp only [srcW, zr] at q2
        rcases dict_lock (X := X) (Q := fun d od ys H2 => R (Itd d od ys) H2) r1 zr (fun od ys H2 l S => q2 ρ1 H1 H2 _ _ (Stp.refl ..) r1 l src_vals S) with ⟨u, e1, mu, k⟩ | ⟨od, ys, e1, k⟩
        · refine .inl ⟨_, u, rfl, e1, mu, fun od nf => ?_⟩
          obtain ⟨ys, rfl, k⟩ := k od nf
          exact ⟨_, od, ys, rfl, upd_same, k⟩
        · exact .inr ⟨_, od, ys, rfl, e1, k⟩
      | lst _ => simp only [srcW, zr] at q2; exact q2.elim
      | ins _ _ => simp only [srcW, zr] at q2; exact q2.elim
  | _ => exact q2.elim
theorem i_rng1 {fs : Env → Heap → Rs (List Val)} {tg a : Expr} {p pos : Pos} (hx : sc.names.lookup ("range" : Str) = some .globalImplicit) (hm : g.mg "range" = none) (hs : isSt a = false) (ha : SoA g lv N sc fs [a]) :
    SoI g lv N sc (fun env h => (fs env h).bind fun vs h1 => match vs with
      | [.int j] => if -(2 ^ 62) ≤ j ∧ j < 2 ^ 62 then .ok ⟨rngV 0 j.toNat, none⟩ h1 else .bad
      | _ => .bad) tg (.Call (.Name "range" p) [a] [] pos) := by
  intro X W G ρ h H env σ R r er q
  refine (pi_range1 (G.gl hx) (by rw [G.hmg]; exact hm) (self_a X [a]) (starEach_plain hs [] X.env)).se ?_
  refine ha X W G ρ h H env σ _ r er (QR.imp (QI.bind (T := VRs g) q) fun x H1 ⟨ρ1, h1, v, s1, r1, t1, _, q2⟩ => ?_)
  split at q2
  · rename_i j _
    split at q2
    · rename_i hj
      rw [VRs] at t1
      obtain ⟨y, yr, rfl, t1, t2⟩ := t1
      rw [VRs] at t2
      subst t2
      cases t1.of_int
      exact ⟨j, rfl, hj.1, hj.2, q2 ρ1 H1 H1 _ _ (Stp.refl ..) r1 rfl src_rng True.intro⟩
    · exact q2.elim
  · exact q2.elim
theorem i_rng2 {fs : Env → Heap → Rs (List Val)} {tg a b : Expr} {p pos : Pos} (hx : sc.names.lookup ("range" : Str) = some .globalImplicit) (hm : g.mg "range" = none) (hs : isSt a = false) (hs2 : isSt b = false) (ha : SoA g lv N sc fs [a, b]) :
    SoI g lv N sc (fun env h => (fs env h).bind fun vs h1 => match vs with
      | [.int i, .int j] => if -(2 ^ 62) ≤ i ∧ i < 2 ^ 62 ∧ -(2 ^ 62) ≤ j ∧ j < 2 ^ 62 then .ok ⟨rngV i (j - i).toNat, none⟩ h1 else .bad
      | _ => .bad) tg (.Call (.Name "range" p) [a, b] [] pos) := by
  intro X W G ρ h H env σ R r er q
  refine (pi_range2 (G.gl hx) (by rw [G.hmg]; exact hm) (self_a X [a, b]) (by rw [starEach_plain hs, starEach_plain hs2]; rfl) (starEach_plain hs2 [] X.env)).se ?_
  refine ha X W G ρ h H env σ _ r er (QR.imp (QI.bind (T := VRs g) q) fun x H1 ⟨ρ1, h1, v, s1, r1, t1, _, q2⟩ => ?_)
  split at q2
  · rename_i i j _
    split at q2
    · rename_i hj
      rw [VRs] at t1
      obtain ⟨y, yr, rfl, t1, t2⟩ := t1
      rw [VRs] at t2
      obtain ⟨y2, yr2, rfl, t2, t3⟩ := t2
      rw [VRs] at t3
      subst t3
      cases t1.of_int
      cases t2.of_int
      exact ⟨i, j, rfl, hj, q2 ρ1 H1 H1 _ _ (Stp.refl ..) r1 rfl src_rng True.intro⟩
    · exact q2.elim
  · exact q2.elim
end
end MP
end

section
/-! MP, part M: comprehensions. -/
set_option autoImplicit false
set_option linter.all false
namespace MP
open PySem L2
section
variable {g : G} {lv : Nat} {N : List Str} {sc : Scope}

/-! ### the block's context -/
theorem relabel_scr (scope : Scope) (env : PySem.Env) : ScR (relabel scope env) scope := by
  intro x k e
  have key : ∀ (names : List (Str × NameKind)), names.lookup x = some k → (names.map fun (n, k) => if (k == NameKind.free && env.scope.kind == .function && env.kindOf n == some .cell) then (n, NameKind.cell) else (n, k)).lookup x = some k ∨ (k = .free ∧ (names.map fun (n, k) => if (k == NameKind.free && env.scope.kind == .function && env.kindOf n == some .cell) then (n, NameKind.cell) else (n, k)).lookup x = some .cell) := by
    intro names
    induction names with
    | nil => intro h; cases h
    | cons p r ih =>
      obtain ⟨n, kk⟩ := p
      intro h
      rw [List.lookup_cons] at h
      rw [List.map_cons]
      dsimp only
      cases hx : (x == n) with
      | true =>
        rw [hx] at h
        cases h
        by_cases hc : (k == NameKind.free && env.scope.kind == .function && env.kindOf n == some .cell) = true
        · rw [if_pos hc, List.lookup_cons, hx]
          refine .inr ⟨?_, rfl⟩
          simp only [Bool.and_eq_true] at hc
          exact eq_of_beq hc.1.1
        · rw [if_neg hc, List.lookup_cons, hx]
          exact .inl rfl
      | false =>
        rw [hx] at h
        by_cases hc : (kk == NameKind.free && env.scope.kind == .function && env.kindOf n == some .cell) = true
        · rw [if_pos hc, List.lookup_cons, hx]; exact ih h
        · rw [if_neg hc, List.lookup_cons, hx]; exact ih h
  exact key scope.names e
abbrev Bk (X : Cx) (scope : Scope) (s : Shared) (H : Hp) (C : Addr) (cl : List (Str × Addr)) (fp : List Addr) : Cx := X.blk s H scope (compEnvC scope cl C X.env) fp
theorem Good.blk {X : Cx} {W : WX} (G : Good g X N sc W lv) (scope : Scope) (s : Shared) (H : Hp) (C : Addr) (cl : List (Str × Addr)) (fp : List Addr) : Good g (Bk X scope s H C cl fp) N scope (fun _ _ _ _ => False) lv where
  hP := G.hP
  hw := G.hw
  hK := G.hK
  hmg := G.hmg
  hbase := G.hbase
  hN := G.hN
  nd := G.nd
  hsc := relabel_scr scope X.env
  calm := G.calm
  room := G.room
  tk := takes0
  pown := PassesOwn.never
  cell := fun x e => by show (scope.names.lookup x == some .cell) = true; rw [e]; rfl
theorem blk_ok {X : Cx} {W : WX} (G : Good g X N sc W lv) {scope : Scope} {own : List (Str × Nat)} (h : blkC N sc scope own = true) : BlkOk X.N X.env.scope scope own := by
  have b := blkOk_by h
  refine ⟨b.kind, b.uniq, by rw [G.hN]; exact b.ix, fun y hy e => ?_, fun y hy e => by rw [G.hN]; exact b.own y hy e⟩
  rcases b.free y hy e with q | q
  · exact .inl (G.hsc.same (by decide) q)
  · rcases G.hsc _ _ q with e1 | ⟨_, e1⟩
    · exact .inr e1
    · exact .inl e1

/-! ### slots -/
def wipeE (env : Env) : List Nat → Env
  | [] => env
  | v :: vs => (wipeE env vs).set v none
theorem wipe_er {ρ : Nat → Addr} {n : Nat} {H : Hp} {env : Env} {σ : L2.St} (e : ER g ρ n H env σ) : ∀ vs : List Nat, ER g ρ n H (wipeE env vs) (wipe σ vs)
  | [] => e
  | v :: vs => by
    have ih := wipe_er e vs
    refine ⟨by show ((wipeE env vs).set v none).length = ((wipe σ vs).set v none).length; rw [List.length_set, List.length_set]; exact ih.len, fun i w ew => ?_⟩
    rcases set_get (show ((wipeE env vs).set v none)[i]? = some (some w) from ew) with ⟨_, z⟩ | ⟨hi, z⟩
    · cases z
    · obtain ⟨x, a, b⟩ := ih.val i w z
      exact ⟨x, by show ((wipe σ vs).set v none)[i]? = _; rw [List.getElem?_set_ne (Ne.symm hi)]; exact a, b⟩
theorem wipe_get (σ : L2.St) : ∀ (vs : List Nat) (i : Nat), (wipe σ vs)[i]? = if i ∈ vs ∧ i < σ.length then some none else σ[i]?
  | [], i => by simp [wipe]
  | v :: vs, i => by
    show ((wipe σ vs).set v none)[i]? = _
    by_cases hi : i = v
    · subst hi
      by_cases hl : i < σ.length
      · rw [List.getElem?_set_self (by rw [wipe_length]; exact hl)]
        simp [hl]
      · rw [if_neg (by simp [hl])]
        rw [List.getElem?_eq_none (by rw [List.length_set, wipe_length]; omega), List.getElem?_eq_none (by omega)]
    · rw [List.getElem?_set_ne (Ne.symm hi), wipe_get σ vs i]
      simp [hi]
theorem wipe_same {σ σ2 : L2.St} {vs sl : List Nat} (hl : σ2.length = σ.length) (hs : ∀ i ∈ sl, i ∈ vs) (k : ∀ i, i ∉ sl → σ2[i]? = (wipe σ vs)[i]?) : wipe σ2 vs = wipe σ vs := by
  apply List.ext_getElem?
  intro i
  rw [wipe_get, wipe_get, hl]
  by_cases hv : i ∈ vs ∧ i < σ.length
  · rw [if_pos hv, if_pos hv]
  · rw [if_neg hv, if_neg hv]
    by_cases hi : i ∈ sl
    · have : ¬ i < σ.length := fun z => hv ⟨hs i hi, z⟩
      rw [List.getElem?_eq_none (by omega), List.getElem?_eq_none (by omega)]
    · rw [k i hi, wipe_get, if_neg hv]

/-! ### an object that no cell holds, for a while -/
theorem Stp.off {ρ ρ' : Nat → Addr} {h h' : Heap} {H H' : Hp} {D : Addr} {o : HO} (s : Stp ρ ρ' h h' H H') (hD : H D = none) : Stp ρ ρ' h h' H (upd H' D o) :=
  ⟨s.len, s.agr, s.new, fun b e => by
    by_cases hb : b = D
    · rw [hb]; exact hD
    · rw [upd_ne hb] at e; exact s.kep b e, fun b u e hn => by rw [upd_ne (ne_of_none e hD)]; exact s.frm b u e hn, s.lck⟩
def Off (ρ : Nat → Addr) (h : Heap) (D : Addr) : Prop := ∀ i, i < h.length → ρ i ≠ D
theorem Off.step {ρ ρ' : Nat → Addr} {h h' : Heap} {H H' : Hp} {D : Addr} {o : HO} (f : Off ρ h D) (e : H D = some o) (s : Stp ρ ρ' h h' H H') : Off ρ' h' D := fun i hi => by
  by_cases h1 : i < h.length
  · rw [s.agr i h1]; exact f i h1
  · exact (ne_of_none e (s.new i (by omega) hi)).symm
theorem Off.keep {ρ ρ' : Nat → Addr} {h h' : Heap} {H H' : Hp} {D : Addr} {o : HO} (f : Off ρ h D) (e : H D = some o) (s : Stp ρ ρ' h h' H H') : H' D = some o := s.frm D o e fun i c ei => f i (lt_of_get ei)
def notTup : HO → Prop
  | .tup _ => False
  | .frz _ _ => False
  | _ => True
theorem off_seq {H : Hp} {D : Addr} {o o' : HO} (e : H D = some o) (n : notTup o) : Fx g.K H (upd H D o') := by
  refine ⟨fun a xs ⟨q, pe⟩ => ?_, fun b ns q => ?_⟩
  case refine_2 =>
    rcases q with ⟨u, q⟩ | q
    · exact .inl ⟨u, by rw [upd_ne (by rintro rfl; rw [e] at q; cases q; exact n)]; exact q⟩
    · exact .inr q
  refine ⟨?_, fun zz => by
    obtain ⟨u, k, q | q, rest⟩ := pe zz
    · exact ⟨u, k, .inl (by rw [upd_ne (by rintro rfl; rw [e] at q; cases q; exact n)]; exact q), rest⟩
    · exact ⟨u, k, .inr q, rest⟩⟩
  rcases q with (q | ⟨u, q⟩) | q
  · refine .inl (.inl ?_)
    rw [upd_ne (by rintro rfl; rw [e] at q; cases q; exact n)]; exact q
  · refine .inl (.inr ⟨u, ?_⟩)
    rw [upd_ne (by rintro rfl; rw [e] at q; cases q; exact n)]; exact q
  · exact .inr q
theorem Rel.off {ρ : Nat → Addr} {h : Heap} {H : Hp} {D : Addr} {o o' : HO} (r : Rel g ρ h H) (f : Off ρ h D) (e : H D = some o) (n : notTup o) : Rel g ρ h (upd H D o') :=
  ⟨r.inj, fun i b c ei => (r.obj i b c ei).mono (fun _ _ => rfl) (Nat.le_refl _) (off_seq e n) (upd_ne (f i (lt_of_get ei)))⟩
/-- .. becomes a cell's -/
theorem Rel.adopt {ρ : Nat → Addr} {h : Heap} {H : Hp} {D : Addr} {c : B} (r : Rel g ρ h H) (f : Off ρ h D) (ho : OR g (ext ρ h.length D) (h.length + 1) H D false c) : Rel g (ext ρ h.length D) (h ++ [(false, c)]) H := by
  refine ⟨fun i j hi hj e => ?_, fun i b c' e => ?_⟩
  · rw [List.length_append, List.length_singleton] at hi hj
    by_cases h1 : i = h.length
    · by_cases h2 : j = h.length
      · rw [h1, h2]
      · rw [h1, ext_new, ext_old ρ D (by omega)] at e
        exact absurd e.symm (f j (by omega))
    · by_cases h2 : j = h.length
      · rw [h2, ext_new, ext_old ρ D (by omega)] at e
        exact absurd e (f i (by omega))
      · rw [ext_old ρ D (by omega), ext_old ρ D (by omega)] at e
        exact r.inj i j (by omega) (by omega) e
  · rw [List.length_append, List.length_singleton]
    by_cases h1 : i < h.length
    · rw [List.getElem?_append_left h1] at e
      rw [ext_old ρ D h1]
      exact (r.obj i b c' e).mono (fun j hj => ext_old ρ D hj) (by omega) ⟨fun _ _ q => q, fun _ _ q => q⟩ rfl
    · have hl := lt_of_get e
      rw [List.length_append, List.length_singleton] at hl
      have : i = h.length := by omega
      subst this
      rw [List.getElem?_append_right (Nat.le_refl _), Nat.sub_self] at e
      cases e
      rw [ext_new]
      exact ho
theorem Stp.adopt {ρ ρ' : Nat → Addr} {h h' : Heap} {H H' : Hp} {D : Addr} {c : B} (s : Stp ρ ρ' h h' H H') (hD : H D = none) : Stp ρ (ext ρ' h'.length D) h (h' ++ [(false, c)]) H H' :=
  ⟨by rw [List.length_append]; exact Nat.le_trans s.len (Nat.le_add_right _ _), fun i hi => by rw [ext_old ρ' D (Nat.lt_of_lt_of_le hi s.len)]; exact s.agr i hi, fun i a b => by
    rw [List.length_append, List.length_singleton] at b
    by_cases hi : i = h'.length
    · rw [hi, ext_new]; exact hD
    · rw [ext_old ρ' D (by omega)]; exact s.new i a (by omega), s.kep, s.frm, fun i c e => by
    have := s.lck i c e
    rw [List.getElem?_append_left (lt_of_get this)]; exact this⟩
theorem se_unl {X : Cx} {e : Expr} {Q : VK} {σ : L2.St} {H : Hp} (h : SE X e σ H fun v H' => ∃ H4, UnlR X H' H4 ∧ Q v H4) : SE X e σ H Q := fun pins s I => by
  refine thn (h pins s I) fun v s1 ⟨x, H1, I1, rx, H4, u, q⟩ => ?_
  exact ⟨x, H4, inv_unl I1 u, rx, q⟩
theorem unl_off {X : Cx} {H H4 : Hp} {D : Addr} {o : HO} (u : UnlR X H H4) (e : H D = some o) (n : notTup o) : H4 D = some o := by
  rcases u with rfl | ⟨d, od, w, e1, _, rfl⟩
  · exact e
  · rw [upd_ne (by rintro rfl; rw [e] at e1; cases e1; exact n)]; exact e

/-! ### list comprehensions -/
def Rs.noex {α : Type} : Rs α → Rs α
  | .ex _ _ _ => .bad
  | r => r
def lcGo (f : Val → Heap → Rs (Option Val)) : List Val → List Val → Heap → Rs (List Val)
  | [], acc, h => .ok acc h
  | v :: r, acc, h => match f v h with
    | .ok (some y) h1 => lcGo f r (acc ++ [y]) h1
    | .ok none h1 => lcGo f r acc h1
    | _ => .bad
def lcTurn (ft : Fg) (fc : Env → Heap → Rs Bool) (fe : Fe) (env : Env) (v : Val) (h : Heap) : Rs (Option Val) :=
  (ft v env h).bind fun env2 h2 => (fc env2 h2).bind fun b h3 => if b then (fe env2 h3).bind fun y h4 => .ok (some y) h4 else .ok none h3
def eLc (fi : Fi) (ft : Fg) (fc : Env → Heap → Rs Bool) (fe : Fe) (own : List Nat) : Fe := fun env h => (fi env h).bind fun src h1 =>
  if src.xs.length ≤ lim then (lcGo (lcTurn ft fc fe (wipeE env own)) src.xs [] (lockH h1 src.lk)).bind fun ys h2 => al (unlockH h1 h2 src.lk) (.lst ys) else .bad
def SoTs (g : G) (lv : Nat) (N : List Str) (sc : Scope) (f : Env → Heap → Rs Bool) (ifs : List Expr) : Prop :=
  ∀ (X : Cx) (W : WX), Good g X N sc W lv → ∀ (ρ : Nat → Addr) (h : Heap) (H : Hp) (env : Env) (σ : L2.St) (Q : Bool → Hp → Prop), Rel g ρ h H → ER g ρ h.length H env σ → QR g (fun _ _ _ a b => a = b) W ρ h H σ (f env h) Q →
    ∀ (pins : List (Addr × Obj)) (s : Shared), Inv X pins σ H s → wpAny (model X.prog X.w) X.A (forIn ifs true fun c r => if r = true then do let ok ← PySem.isTrue c X.env (PySem.eval c X.env); pure (ForInStep.yield ok) else pure (ForInStep.yield r)) (TP X pins σ Q) X.xe s
theorem ts_nil : SoTs g lv N sc (fun _ h => .ok true h) [] := by
  intro X W G ρ h H env σ Q r er q pins s I
  exact pts_nil.run pins s σ H Q I (QR.ok (T := fun _ _ _ a b => a = b) r rfl q)
theorem ts_one {f : Env → Heap → Rs Bool} {c : Expr} (hc : SoT g lv N sc f c) : SoTs g lv N sc f [c] := by
  intro X W G ρ h H env σ Q r er q pins s I
  exact (pts_one (self_t X c)).run pins s σ H Q I (hc X W G ρ h H env σ Q r er q)
abbrev bG (X : Cx) (scope : Scope) (tg : Expr) : TG := fun x σ H Q => ∀ s H0 C cl fp, SG (Bk X scope s H0 C cl fp) tg x σ H Q
abbrev bT (X : Cx) (scope : Scope) (ifs : List Expr) : TT := fun σ H Q => ∀ s0 H0 C cl fp, ∀ (pins : List (Addr × Obj)) (s : Shared), Inv (Bk X scope s0 H0 C cl fp) pins σ H s → wpAny (model X.prog X.w) X.A (forIn ifs true fun c r => if r = true then do let ok ← PySem.isTrue c (Bk X scope s0 H0 C cl fp).env (PySem.eval c (Bk X scope s0 H0 C cl fp).env); pure (ForInStep.yield ok) else pure (ForInStep.yield r)) (TP (Bk X scope s0 H0 C cl fp) pins σ Q) (Bk X scope s0 H0 C cl fp).xe s
abbrev bE (X : Cx) (scope : Scope) (e : Expr) : TE := fun σ H Q => ∀ s H0 C cl fp, SE (Bk X scope s H0 C cl fp) e σ H Q
theorem bG_ok (X : Cx) (scope : Scope) (tg : Expr) : ∀ (s : Shared) (H : Hp) (C : Addr) (cl : List (Str × Addr)) (fp : List Addr), PG (X.blk s H scope (compEnvC scope cl C X.env) fp) tg (bG X scope tg) := fun s H C cl fp => ⟨fun pins s' σ H' v u Q I r k => k s H C cl fp pins s' u I r⟩
theorem bT_ok (X : Cx) (scope : Scope) (ifs : List Expr) : ∀ (s : Shared) (H : Hp) (C : Addr) (cl : List (Str × Addr)) (fp : List Addr), PTs (X.blk s H scope (compEnvC scope cl C X.env) fp) ifs (bT X scope ifs) := fun s H C cl fp => ⟨fun pins s' σ H' Q I k => k s H C cl fp pins s' I⟩
theorem bE_ok (X : Cx) (scope : Scope) (e : Expr) : ∀ (s : Shared) (H : Hp) (C : Addr) (cl : List (Str × Addr)) (fp : List Addr), PE (X.blk s H scope (compEnvC scope cl C X.env) fp) e (bE X scope e) := fun s H C cl fp => ⟨fun pins s' σ H' Q I k => k s H C cl fp pins s' I⟩
/-- the reading of a comprehension, whatever follows it -/
theorem lc_read {fi : Fi} {ft : Fg} {fc : Env → Heap → Rs Bool} {fe : Fe} {sl : List Nat} {own : List (Str × Nat)} {scope : Scope} {tg it elt : Expr} {ifs : List Expr} (hsl : ∀ i ∈ sl, i ∈ own.map (·.2)) (hx : ∀ v env h c fs h', ft v env h ≠ .ex c fs h')
    (hi : SoI g lv N sc fi tg it) (ht : SoG g lv N scope sl ft tg) (hc : SoTs g lv N scope fc ifs) (he : SoE g lv N scope fe elt)
    {X : Cx} {W : WX} (G : Good g X N sc W lv) {ρ : Nat → Addr} {h : Heap} {H : Hp} {env : Env} {σ : L2.St} {Q : VK} (r : Rel g ρ h H) (er : ER g ρ h.length H env σ) (q : QR g (VR g) W ρ h H σ (eLc fi ft fc fe (own.map (·.2)) env h) Q) :
    tLc (SI X tg it) (bG X scope tg) (bT X scope ifs) (bE X scope elt) (own.map (·.2)) σ H (fun v H' => ∃ H4, UnlR X H' H4 ∧ Q v H4) := by
  refine hi X W G ρ h H env σ _ r er ?_
  have q' : QR g (VR g) W ρ h H σ ((fi env h).bind fun src h1 => if src.xs.length ≤ lim then (lcGo (lcTurn ft fc fe (wipeE env (own.map (·.2)))) src.xs [] (lockH h1 src.lk)).bind fun ys h2 => al (unlockH h1 h2 src.lk) (.lst ys) else .bad) Q := q
  cases z : fi env h with
  | bad => rw [z] at q'; exact q'
  | ex c fs h' => rw [z] at q'; exact q'
  | ok src h1 =>
    rw [z] at q'
    obtain ⟨xs, lk⟩ := src
    intro ρ1 H1 H2 J S s1 r1 lr J1 S1 D hD
    dsimp only at lr J1 S1
    obtain ⟨ls, r2⟩ := lock_step r1 lr
    have q1 : QR g (VR g) W ρ1 h1 H1 σ (if xs.length ≤ lim then (lcGo (lcTurn ft fc fe (wipeE env (own.map (·.2)))) xs [] (lockH h1 lk)).bind fun ys h2 => al (unlockH h1 h2 lk) (.lst ys) else .bad) Q := QR.step s1 q'
    by_cases hlim : xs.length ≤ lim
    · rw [if_pos hlim] at q1
      have er2 := wipe_er ((er.step r s1).step r1 ls) (own.map (·.2))
      generalize hf : lcTurn ft fc fe (wipeE env (own.map (·.2))) = f at q1
      generalize hL : lockH h1 lk = hl at q1 ls r2 er2 S1
      have offD : Off ρ1 hl D := fun i hi => by
        cases zi : hl[i]? with
        | none => exact absurd (List.getElem?_eq_none_iff.mp zi) (by omega)
        | some c => obtain ⟨u, hu⟩ := r2.trk (b := c.1) (c := c.2) zi; exact ne_of_none hu hD
      refine ⟨fun i m H' => m = xs.length - i ∧ i ≤ xs.length ∧ ∃ ρ' h' ys acc, Stp ρ1 ρ' hl h' H2 H' ∧ Rel g ρ' h' H' ∧ Off ρ' h' D ∧ H' D = some (.lst acc) ∧ VRs g ρ' h'.length H' ys acc ∧ ys.length ≤ i ∧ lcGo f xs [] hl = lcGo f (xs.drop i) ys h',
        ⟨xs.length, rfl, Nat.zero_le _, ρ1, hl, [], [], Stp.fresh r2 hD, r2.fresh hD, offD, upd_same, by rw [VRs], Nat.le_refl _, rfl⟩, ?_⟩
      rintro i m H' ⟨rfl, hi', ρ', h', ys, acc, st, rl, off, eD, vac, hyl, eq⟩
      have S' := J1.step _ _ _ _ _ _ S1 r2 st
      by_cases hlt : i < xs.length
      · have hget : xs[i]? = some xs[i] := by simp [hlt]
        have hdrop : xs.drop i = xs[i] :: xs.drop (i + 1) := List.drop_eq_getElem_cons hlt
        rw [hdrop] at eq
        simp only [lcGo] at eq
        refine .inr ⟨J1.go ρ' h' H' i S' rl hlt, fun H'' => ∃ m', m' < xs.length - i ∧ (m' = xs.length - (i + 1) ∧ i + 1 ≤ xs.length ∧ ∃ ρ' h' ys acc, Stp ρ1 ρ' hl h' H2 H'' ∧ Rel g ρ' h' H'' ∧ Off ρ' h' D ∧ H'' D = some (.lst acc) ∧ VRs g ρ' h'.length H'' ys acc ∧ ys.length ≤ i + 1 ∧ lcGo f xs [] hl = lcGo f (xs.drop (i + 1)) ys h'), fun H'' z => z, fun x H'' y => ?_⟩
        obtain ⟨sy, ry, vy⟩ := J1.yld ρ' h' H' i xs[i] x H'' S' rl hget y
        have eDy := off.keep eD sy
        have offy := off.step eD sy
        -- the turn of the evaluator
        have hft : f xs[i] h' = lcTurn ft fc fe (wipeE env (own.map (·.2))) xs[i] h' := by rw [hf]
        have badc : f xs[i] h' = .bad → False := fun zb => by rw [zb] at eq; rw [eq] at q1; exact q1
        have exc : ∀ c fs h'', f xs[i] h' = .ex c fs h'' → False := fun c fs h'' zb => by rw [zb] at eq; rw [eq] at q1; exact q1
        intro s0 H0 C cl fp
        have ery : ER g ρ' h'.length H'' (wipeE env (own.map (·.2))) (wipe σ (own.map (·.2))) := (er2.step r2 st).step rl sy
        refine ht _ _ (G.blk scope s0 H0 C cl fp) ρ' h' H'' _ _ xs[i] x _ ry ery vy ?_
        cases zt : ft xs[i] (wipeE env (own.map (·.2))) h' with
        | bad => exact badc (by rw [hft]; unfold lcTurn; rw [zt]; rfl)
        | ex c fs h'' => exact absurd zt (hx _ _ _ _ _ _)
        | ok env2 h2 =>
          intro ρ2 Ha σ2 st2 rl2 era k2
          refine ⟨wipe_same (k2.1.trans (wipe_length _ _)) hsl k2.2, ?_⟩
          intro s0 H0 C cl fp pins s I
          refine hc _ _ (G.blk scope s0 H0 C cl fp) ρ2 h2 Ha env2 σ2 _ rl2 era ?_ pins s I
          have eDa := offy.keep eDy st2
          have offa := offy.step eDy st2
          cases zc : fc env2 h2 with
          | bad => exact badc (by rw [hft]; unfold lcTurn; rw [zt]; show ((fc env2 h2).bind _) = _; rw [zc]; rfl)
          | ex c fs h'' => exact False.elim <| exc c fs h'' (by rw [hft]; unfold lcTurn; rw [zt]; show ((fc env2 h2).bind _) = _; rw [zc]; rfl)
          | ok b h3 =>
            intro ρ3 Hb b' st3 rl3 hbb
            cases hbb
            have eDb := offa.keep eDa st3
            have offb := offa.step eDa st3
            have stb : Stp ρ1 ρ3 hl h3 H2 Hb := ((st.trans sy).trans st2).trans st3
            cases b with
            | false =>
              have ez : f xs[i] h' = .ok none h3 := by rw [hft]; unfold lcTurn; rw [zt]; show ((fc env2 h2).bind _) = _; rw [zc]; rfl
              rw [ez] at eq
              exact ⟨xs.length - (i + 1), by omega, rfl, hlt, ρ3, h3, ys, acc, stb, rl3, offb, eDb, ((vac.step rl sy).step ry st2).step rl2 st3, by omega, eq⟩
            | true =>
              intro s0 H0 C cl fp
              refine he _ _ (G.blk scope s0 H0 C cl fp) ρ3 h3 Hb env2 σ2 _ rl3 (era.step rl2 st3) ?_
              cases ze : fe env2 h3 with
              | bad => exact badc (by rw [hft]; unfold lcTurn; rw [zt]; show ((fc env2 h2).bind _) = _; rw [zc]; show ((fe env2 h3).bind _) = _; rw [ze]; rfl)
              | ex c fs h'' => exact False.elim <| exc c fs h'' (by rw [hft]; unfold lcTurn; rw [zt]; show ((fc env2 h2).bind _) = _; rw [zc]; show ((fe env2 h3).bind _) = _; rw [ze]; rfl)
              | ok yv h4 =>
                have ez : f xs[i] h' = .ok (some yv) h4 := by rw [hft]; unfold lcTurn; rw [zt]; show ((fc env2 h2).bind _) = _; rw [zc]; show ((fe env2 h3).bind _) = _; rw [ze]; rfl
                rw [ez] at eq
                intro ρ4 Hc y4 st4 rl4 vy4
                have eDc := offb.keep eDb st4
                have offc := offb.step eDb st4
                have vac4 := (((vac.step rl sy).step ry st2).step rl2 st3).step rl3 st4
                refine ⟨acc, eDc, ?_, xs.length - (i + 1), by omega, rfl, hlt, ρ4, h4, ys ++ [yv], acc ++ [y4], (stb.trans st4).off hD, rl4.off offc eDc True.intro, offc, upd_same, ?_, by rw [List.length_append, List.length_singleton]; omega, eq⟩
                · rw [← vac.length]
                  exact Nat.lt_of_lt_of_le (Nat.lt_of_le_of_lt hyl hlt) (lim_le hlim)
                · refine VRs.append (vac4.mono (fun _ _ => rfl) (Nat.le_refl _) (off_seq eDc True.intro)) ?_
                  rw [VRs]
                  exact ⟨_, _, rfl, vy4.mono (fun _ _ => rfl) (Nat.le_refl _) (off_seq eDc True.intro), by rw [VRs]⟩
      · have e : i = xs.length := by omega
        subst e
        refine .inl ⟨J1.stop ρ' h' H' S' rl, ?_⟩
        rw [List.drop_length] at eq
        rw [eq] at q1
        rw [← hL] at st
        obtain ⟨H4, u, st4, r4, sq⟩ := unlock_step r1 lr st rl
        have hD1 : H1 D = none := ls.kep D hD
        have eD4 := unl_off u eD True.intro
        refine ⟨H4, u, ?_⟩
        have q2 : QR g (VR g) W ρ1 h1 H1 σ (al (unlockH h1 h' lk) (.lst ys)) Q := q1
        have off4 : Off ρ' (unlockH h1 h' lk) D := fun i hi => off i (by rw [unlock_len] at hi; exact hi)
        refine q2 _ H4 _ (st4.adopt hD1) (r4.adopt off4 ⟨?_, acc, eD4, ?_⟩) ?_
        · exact Nat.le_trans hyl (lim_le hlim)
        · exact vac.mono (fun j hj => ext_old ρ' D (by rw [unlock_len]; exact hj)) (by rw [unlock_len]; omega) sq
        · rw [VR]
          exact ⟨by simp, by rw [ext_new]⟩
    · rw [if_neg hlim] at q1; exact q1.elim
theorem so_lc {fi : Fi} {ft : Fg} {fc : Env → Heap → Rs Bool} {fe : Fe} {sl : List Nat} {own : List (Str × Nat)} {scope : Scope} {tg it elt : Expr} {ifs : List Expr} {pos : Pos} (hs : isSet it = false) (hbk : blkC N sc scope own = true) (hsl : ∀ i ∈ sl, i ∈ own.map (·.2)) (hx : ∀ v env h c fs h', ft v env h ≠ .ex c fs h')
    (hi : SoI g lv N sc fi tg it) (ht : SoG g lv N scope sl ft tg) (hc : SoTs g lv N scope fc ifs) (he : SoE g lv N scope fe elt) : SoE g lv N sc (eLc fi ft fc fe (own.map (·.2))) (.ListComp elt [⟨tg, it, ifs, 0⟩] scope pos) := by
  intro X W G ρ h H env σ Q r er q
  refine se_unl ?_
  exact (pe_lc G.calm G.nd (self_i X tg it) (blk_ok G hbk) (bG_ok X scope tg) (bT_ok X scope ifs) (bE_ok X scope elt) (folded_no hs X.env)).se (lc_read hsl hx hi ht hc he G r er q)
/-- y = [..], stored at once -/
theorem s_setLc {fi : Fi} {ft : Fg} {fc : Env → Heap → Rs Bool} {fe : Fe} {sl : List Nat} {own : List (Str × Nat)} {scope : Scope} {tg it elt : Expr} {ifs : List Expr} {i : Nat} {y : Str} {py pos spos : Pos} (hy : N[i]? = some y) (hyl : sc.names.lookup y = some .local)
    (hsw : ∀ env : PySem.Env, ScR env.scope sc → env.scope.kind = .function → swapsWith (.ListComp elt [⟨tg, it, ifs, 0⟩] scope pos) (some (.Name y py)) spos.line env = pure true)
    (hs : isSet it = false) (hbk : blkC N sc scope own = true) (hsl : ∀ i ∈ sl, i ∈ own.map (·.2)) (hx : ∀ v env h c fs h', ft v env h ≠ .ex c fs h')
    (hi : SoI g lv N sc fi tg it) (ht : SoG g lv N scope sl ft tg) (hc : SoTs g lv N scope fc ifs) (he : SoE g lv N scope fe elt) :
    SoS g lv N sc (fun env h => liftS (eLc fi ft fc fe (own.map (·.2)) env h) env fun v h1 => .nx (env.set i (some v)) h1) (.Assign [.Name y py] (.ListComp elt [⟨tg, it, ifs, 0⟩] scope pos) spos) := by
  intro X W G ρ h H env σ D r er q pins s I
  refine ss_unl (D := D) ?_ pins s I
  have q1 := QS.lift (T := VR g) (σ := σ) r er q
  have q2 : QR g (VR g) W ρ h H σ (eLc fi ft fc fe (own.map (·.2)) env h) (fun v H' => D.nx (σ.set i (some v)) H') := QR.imp q1 fun v H' ⟨ρ1, h1, v', s1, r1, t1, _, q1⟩ => q1 ρ1 H' _ (Stp.refl ..) r1 ((er.step r s1).set t1)
  have z := lc_read (own := own) hsl hx hi ht hc he G r er q2
  refine (ps_setLc (i := i) G.calm G.nd (by rw [G.hN]; exact hy) (G.hsc.same (by decide) hyl) (hsw X.env G.hsc I.ok.kind) (self_i X tg it) (blk_ok G hbk) (bG_ok X scope tg) (bT_ok X scope ifs) (bE_ok X scope elt) (folded_no hs X.env)).se (D := unlD X D) ?_
  exact z
end
end MP
end

section
/-! MP, part N: dict comprehensions. -/
set_option autoImplicit false
set_option linter.all false
namespace MP
open PySem L2
section
variable {g : G} {lv : Nat} {N : List Str} {sc : Scope}
def dcGo (f : Val → Heap → Rs (Option (Key × Val))) : List Val → List (Key × Val) → Heap → Rs (List (Key × Val))
  | [], acc, h => .ok acc h
  | v :: r, acc, h => match f v h with
    | .ok (some p) h1 => dcGo f r (setK acc p.1 p.2) h1
    | .ok none h1 => dcGo f r acc h1
    | _ => .bad
def dcTurn (ft : Fg) (fc : Env → Heap → Rs Bool) (fk fe : Fe) (env : Env) (v : Val) (h : Heap) : Rs (Option (Key × Val)) :=
  (ft v env h).bind fun env2 h2 => (fc env2 h2).bind fun b h3 => if b then (fk env2 h3).bind fun k h4 => (fe env2 h4).bind fun y h5 => (match keyV k with
    | some k => .ok (some (k, y)) h5
    | none => .bad) else .ok none h3
def eDc (fi : Fi) (ft : Fg) (fc : Env → Heap → Rs Bool) (fk fe : Fe) (own : List Nat) : Fe := fun env h => (fi env h).bind fun src h1 =>
  if src.xs.length ≤ lim then (dcGo (dcTurn ft fc fk fe (wipeE env own)) src.xs [] (lockH h1 src.lk)).bind fun ys h2 => al (unlockH h1 h2 src.lk) (.dct ys) else .bad
/-- the reading of a comprehension, whatever follows it -/
theorem dc_read {fi : Fi} {ft : Fg} {fc : Env → Heap → Rs Bool} {fk fe : Fe} {sl : List Nat} {own : List (Str × Nat)} {scope : Scope} {tg it kx elt : Expr} {ifs : List Expr} (hsl : ∀ i ∈ sl, i ∈ own.map (·.2)) (hx : ∀ v env h c fs h', ft v env h ≠ .ex c fs h')
    (hi : SoI g lv N sc fi tg it) (ht : SoG g lv N scope sl ft tg) (hc : SoTs g lv N scope fc ifs) (hk : SoE g lv N scope fk kx) (he : SoE g lv N scope fe elt)
    {X : Cx} {W : WX} (G : Good g X N sc W lv) {ρ : Nat → Addr} {h : Heap} {H : Hp} {env : Env} {σ : L2.St} {Q : VK} (r : Rel g ρ h H) (er : ER g ρ h.length H env σ) (q : QR g (VR g) W ρ h H σ (eDc fi ft fc fk fe (own.map (·.2)) env h) Q) :
    tDc (SI X tg it) (bG X scope tg) (bT X scope ifs) (bE X scope kx) (bE X scope elt) (own.map (·.2)) σ H (fun v H' => ∃ H4, UnlR X H' H4 ∧ Q v H4) := by
  refine hi X W G ρ h H env σ _ r er ?_
  have q' : QR g (VR g) W ρ h H σ ((fi env h).bind fun src h1 => if src.xs.length ≤ lim then (dcGo (dcTurn ft fc fk fe (wipeE env (own.map (·.2)))) src.xs [] (lockH h1 src.lk)).bind fun ys h2 => al (unlockH h1 h2 src.lk) (.dct ys) else .bad) Q := q
  cases z : fi env h with
  | bad => rw [z] at q'; exact q'
  | ex c fs h' => rw [z] at q'; exact q'
  | ok src h1 =>
    rw [z] at q'
    obtain ⟨xs, lk⟩ := src
    intro ρ1 H1 H2 J S s1 r1 lr J1 S1 D hD
    dsimp only at lr J1 S1
    obtain ⟨ls, r2⟩ := lock_step r1 lr
    have q1 : QR g (VR g) W ρ1 h1 H1 σ (if xs.length ≤ lim then (dcGo (dcTurn ft fc fk fe (wipeE env (own.map (·.2)))) xs [] (lockH h1 lk)).bind fun ys h2 => al (unlockH h1 h2 lk) (.dct ys) else .bad) Q := QR.step s1 q'
    by_cases hlim : xs.length ≤ lim
    · rw [if_pos hlim] at q1
      have er2 := wipe_er ((er.step r s1).step r1 ls) (own.map (·.2))
      generalize hf : dcTurn ft fc fk fe (wipeE env (own.map (·.2))) = f at q1
      generalize hL : lockH h1 lk = hl at q1 ls r2 er2 S1
      have offD : Off ρ1 hl D := fun i hi => by
        cases zi : hl[i]? with
        | none => exact absurd (List.getElem?_eq_none_iff.mp zi) (by omega)
        | some c => obtain ⟨u, hu⟩ := r2.trk (b := c.1) (c := c.2) zi; exact ne_of_none hu hD
      refine ⟨fun i m H' => m = xs.length - i ∧ i ≤ xs.length ∧ ∃ ρ' h' ys acc, Stp ρ1 ρ' hl h' H2 H' ∧ Rel g ρ' h' H' ∧ Off ρ' h' D ∧ H' D = some (.dK acc) ∧ KR g ρ' h'.length H' ys acc ∧ (∀ p ∈ ys, KOk p.1) ∧ ys.length ≤ i ∧ dcGo f xs [] hl = dcGo f (xs.drop i) ys h',
        ⟨xs.length, rfl, Nat.zero_le _, ρ1, hl, [], [], Stp.fresh r2 hD, r2.fresh hD, offD, upd_same, by rw [KR], (fun p hp => absurd hp (by simp)), Nat.le_refl _, rfl⟩, ?_⟩
      rintro i m H' ⟨rfl, hi', ρ', h', ys, acc, st, rl, off, eD, vac, vko, hyl, eq⟩
      have S' := J1.step _ _ _ _ _ _ S1 r2 st
      by_cases hlt : i < xs.length
      · have hget : xs[i]? = some xs[i] := by simp [hlt]
        have hdrop : xs.drop i = xs[i] :: xs.drop (i + 1) := List.drop_eq_getElem_cons hlt
        rw [hdrop] at eq
        simp only [dcGo] at eq
        refine .inr ⟨J1.go ρ' h' H' i S' rl hlt, fun H'' => ∃ m', m' < xs.length - i ∧ (m' = xs.length - (i + 1) ∧ i + 1 ≤ xs.length ∧ ∃ ρ' h' ys acc, Stp ρ1 ρ' hl h' H2 H'' ∧ Rel g ρ' h' H'' ∧ Off ρ' h' D ∧ H'' D = some (.dK acc) ∧ KR g ρ' h'.length H'' ys acc ∧ (∀ p ∈ ys, KOk p.1) ∧ ys.length ≤ i + 1 ∧ dcGo f xs [] hl = dcGo f (xs.drop (i + 1)) ys h'), fun H'' z => z, fun x H'' y => ?_⟩
        obtain ⟨sy, ry, vy⟩ := J1.yld ρ' h' H' i xs[i] x H'' S' rl hget y
        have eDy := off.keep eD sy
        have offy := off.step eD sy
        -- the turn of the evaluator
        have hft : f xs[i] h' = dcTurn ft fc fk fe (wipeE env (own.map (·.2))) xs[i] h' := by rw [hf]
        have badc : f xs[i] h' = .bad → False := fun zb => by rw [zb] at eq; rw [eq] at q1; exact q1
        have exc : ∀ c fs h'', f xs[i] h' = .ex c fs h'' → False := fun c fs h'' zb => by rw [zb] at eq; rw [eq] at q1; exact q1
        intro s0 H0 C cl fp
        have ery : ER g ρ' h'.length H'' (wipeE env (own.map (·.2))) (wipe σ (own.map (·.2))) := (er2.step r2 st).step rl sy
        refine ht _ _ (G.blk scope s0 H0 C cl fp) ρ' h' H'' _ _ xs[i] x _ ry ery vy ?_
        cases zt : ft xs[i] (wipeE env (own.map (·.2))) h' with
        | bad => exact badc (by rw [hft]; unfold dcTurn; rw [zt]; rfl)
        | ex c fs h'' => exact absurd zt (hx _ _ _ _ _ _)
        | ok env2 h2 =>
          intro ρ2 Ha σ2 st2 rl2 era k2
          refine ⟨wipe_same (k2.1.trans (wipe_length _ _)) hsl k2.2, ?_⟩
          intro s0 H0 C cl fp pins s I
          refine hc _ _ (G.blk scope s0 H0 C cl fp) ρ2 h2 Ha env2 σ2 _ rl2 era ?_ pins s I
          have eDa := offy.keep eDy st2
          have offa := offy.step eDy st2
          cases zc : fc env2 h2 with
          | bad => exact badc (by rw [hft]; unfold dcTurn; rw [zt]; show ((fc env2 h2).bind _) = _; rw [zc]; rfl)
          | ex c fs h'' => exact False.elim <| exc c fs h'' (by rw [hft]; unfold dcTurn; rw [zt]; show ((fc env2 h2).bind _) = _; rw [zc]; rfl)
          | ok b h3 =>
            intro ρ3 Hb b' st3 rl3 hbb
            cases hbb
            have eDb := offa.keep eDa st3
            have offb := offa.step eDa st3
            have stb : Stp ρ1 ρ3 hl h3 H2 Hb := ((st.trans sy).trans st2).trans st3
            cases b with
            | false =>
              have ez : f xs[i] h' = .ok none h3 := by rw [hft]; unfold dcTurn; rw [zt]; show ((fc env2 h2).bind _) = _; rw [zc]; rfl
              rw [ez] at eq
              exact ⟨xs.length - (i + 1), by omega, rfl, hlt, ρ3, h3, ys, acc, stb, rl3, offb, eDb, ((vac.step rl sy).step ry st2).step rl2 st3, vko, by omega, eq⟩
            | true =>
              intro s0 H0 C cl fp
              refine hk _ _ (G.blk scope s0 H0 C cl fp) ρ3 h3 Hb env2 σ2 _ rl3 (era.step rl2 st3) ?_
              cases zk : fk env2 h3 with
              | bad => exact badc (by rw [hft]; unfold dcTurn; rw [zt]; show ((fc env2 h2).bind _) = _; rw [zc]; show ((fk env2 h3).bind _) = _; rw [zk]; rfl)
              | ex c fs h'' => exact False.elim <| exc c fs h'' (by rw [hft]; unfold dcTurn; rw [zt]; show ((fc env2 h2).bind _) = _; rw [zc]; show ((fk env2 h3).bind _) = _; rw [zk]; rfl)
              | ok kv h4 =>
                intro ρ4 Hc k4 st4 rl4 vk4
                have eDc := offb.keep eDb st4
                have offc := offb.step eDb st4
                intro s0 H0 C cl fp
                refine he _ _ (G.blk scope s0 H0 C cl fp) ρ4 h4 Hc env2 σ2 _ rl4 ((era.step rl2 st3).step rl3 st4) ?_
                cases ze : fe env2 h4 with
                | bad => exact badc (by rw [hft]; unfold dcTurn; rw [zt]; show ((fc env2 h2).bind _) = _; rw [zc]; show ((fk env2 h3).bind _) = _; rw [zk]; show ((fe env2 h4).bind _) = _; rw [ze]; rfl)
                | ex c fs h'' => exact False.elim <| exc c fs h'' (by rw [hft]; unfold dcTurn; rw [zt]; show ((fc env2 h2).bind _) = _; rw [zc]; show ((fk env2 h3).bind _) = _; rw [zk]; show ((fe env2 h4).bind _) = _; rw [ze]; rfl)
                | ok yv h5 =>
                  cases zkk : keyV kv with
                  | none => exact False.elim <| badc (by rw [hft]; unfold dcTurn; rw [zt]; show ((fc env2 h2).bind _) = _; rw [zc]; show ((fk env2 h3).bind _) = _; rw [zk]; show ((fe env2 h4).bind _) = _; rw [ze]; show (match keyV kv with | some k => Rs.ok (some (k, yv)) h5 | none => .bad) = _; rw [zkk])
                  | some k =>
                    have ez : f xs[i] h' = .ok (some (k, yv)) h5 := by rw [hft]; unfold dcTurn; rw [zt]; show ((fc env2 h2).bind _) = _; rw [zc]; show ((fk env2 h3).bind _) = _; rw [zk]; show ((fe env2 h4).bind _) = _; rw [ze]; show (match keyV kv with | some k => Rs.ok (some (k, yv)) h5 | none => .bad) = _; rw [zkk]
                    rw [ez] at eq
                    intro ρ5 Hd y5 st5 rl5 vy5
                    have eDd := offc.keep eDc st5
                    have offd := offc.step eDc st5
                    have vac5 := ((((vac.step rl sy).step ry st2).step rl2 st3).step rl3 st4).step rl4 st5
                    have hkok : KOk k := keyV_kok zkk vk4
                    have hlen : acc.length < sizeLine := by
                      rw [← vac.length]
                      exact Nat.lt_of_lt_of_le (Nat.lt_of_le_of_lt hyl hlt) (lim_le hlim)
                    refine ⟨acc, k, keyV_ok zkk vk4, eDd, hlen, xs.length - (i + 1), by omega, rfl, hlt, ρ5, h5, setK ys k yv, putK acc k y5, ((stb.trans st4).trans st5).off hD, rl5.off offd eDd True.intro, offd, upd_same, ?_, ?_, ?_, eq⟩
                    · exact KR.put (vy5.mono (fun _ _ => rfl) (Nat.le_refl _) (off_seq eDd True.intro)) (vac5.mono (fun _ _ => rfl) (Nat.le_refl _) (off_seq eDd True.intro))
                    · intro p hp
                      unfold setK at hp
                      split at hp
                      · obtain ⟨q, hq, e⟩ := List.mem_map.mp hp
                        split at e <;> (rw [← e]; exact vko q hq)
                      · rcases List.mem_append.mp hp with hp | hp
                        · exact vko p hp
                        · rw [List.mem_singleton.mp hp]; exact hkok
                    · exact Nat.le_trans (setK_length ys k yv) (by omega)
      · have e : i = xs.length := by omega
        subst e
        refine .inl ⟨J1.stop ρ' h' H' S' rl, ?_⟩
        rw [List.drop_length] at eq
        rw [eq] at q1
        rw [← hL] at st
        obtain ⟨H4, u, st4, r4, sq⟩ := unlock_step r1 lr st rl
        have hD1 : H1 D = none := ls.kep D hD
        have eD4 := unl_off u eD True.intro
        refine ⟨H4, u, ?_⟩
        have q2 : QR g (VR g) W ρ1 h1 H1 σ (al (unlockH h1 h' lk) (.dct ys)) Q := q1
        have off4 : Off ρ' (unlockH h1 h' lk) D := fun i hi => off i (by rw [unlock_len] at hi; exact hi)
        refine q2 _ H4 _ (st4.adopt hD1) (r4.adopt off4 ⟨⟨?_, vko⟩, acc, eD4, ?_⟩) ?_
        · exact Nat.le_trans hyl (lim_le hlim)
        · exact vac.mono (fun j hj => ext_old ρ' D (by rw [unlock_len]; exact hj)) (by rw [unlock_len]; omega) sq
        · rw [VR]
          exact ⟨by simp, by rw [ext_new]⟩
    · rw [if_neg hlim] at q1; exact q1.elim
theorem so_dc {fi : Fi} {ft : Fg} {fc : Env → Heap → Rs Bool} {fk fe : Fe} {sl : List Nat} {own : List (Str × Nat)} {scope : Scope} {tg it kx elt : Expr} {ifs : List Expr} {pos : Pos} (hs : isSet it = false) (hbk : blkC N sc scope own = true) (hsl : ∀ i ∈ sl, i ∈ own.map (·.2)) (hx : ∀ v env h c fs h', ft v env h ≠ .ex c fs h')
    (hi : SoI g lv N sc fi tg it) (ht : SoG g lv N scope sl ft tg) (hc : SoTs g lv N scope fc ifs) (hk : SoE g lv N scope fk kx) (he : SoE g lv N scope fe elt) : SoE g lv N sc (eDc fi ft fc fk fe (own.map (·.2))) (.DictComp kx elt [⟨tg, it, ifs, 0⟩] scope pos) := by
  intro X W G ρ h H env σ Q r er q
  refine se_unl ?_
  exact (pe_dc G.calm G.nd (self_i X tg it) (blk_ok G hbk) (bG_ok X scope tg) (bT_ok X scope ifs) (bE_ok X scope kx) (bE_ok X scope elt) (folded_no hs X.env)).se (dc_read hsl hx hi ht hc hk he G r er q)
end
end MP
end

section
/-! MP, part O: subscripts, slices, built-in functions. -/
set_option autoImplicit false
set_option linter.all false
namespace MP
open PySem L2
section
variable {g : G} {lv : Nat} {N : List Str} {sc : Scope}

/-- two expressions, then a rule that is chosen by what they are worth -/
theorem op2 {fa fb : Fe} {fo : Val → Val → Heap → Rs Val} {ea eb : Expr} {X : Cx} {W : WX} (G : Good g X N sc W lv) (ha : SoE g lv N sc fa ea) (hb : SoE g lv N sc fb eb) {ρ : Nat → Addr} {h : Heap} {H : Hp} {env : Env} {σ : L2.St} {Q : VK} {r : R2}
    (rl : Rel g ρ h H) (er : ER g ρ h.length H env σ) (q : QR g (VR g) W ρ h H σ ((fa env h).bind fun x h1 => (fb env h1).bind fun y h2 => fo x y h2) Q)
    (k : ∀ x h1 y h2 ρ2 H2 vx vy, fa env h = .ok x h1 → fb env h1 = .ok y h2 → Rel g ρ2 h2 H2 → VR g ρ2 h2.length H2 x vx → VR g ρ2 h2.length H2 y vy → QR g (VR g) W ρ2 h2 H2 σ (fo x y h2) Q → r vx vy H2 Q) : tOp r (SE X ea) (SE X eb) σ H Q := by
  refine ha X W G ρ h H env σ _ rl er (QR.imp (QR.bind q) fun vx H1 ⟨ρ1, h1, x, s1, r1, t1, E1, q1⟩ => ?_)
  refine hb X W G ρ1 h1 H1 env σ _ r1 (er.step rl s1) (QR.imp (QR.bind q1) fun vy H2 ⟨ρ2, h2, y, s2, r2, t2, E2, q2⟩ => ?_)
  exact k x h1 y h2 ρ2 H2 vx vy E1 E2 r2 (t1.step r1 s2) t2 q2

/-! ### a[i] -/
theorem plain_ix {e : Expr} (h : isSlice e = false) : ∀ o i, subscripted e false o i = operate [o, i] (getItem o i) := fun o i => by cases e <;> first | rfl | cases h
def ixV (a i : Val) (h : Heap) : Rs Val := match a with
  | .tup xs => (match i with
    | .int k => opt (atI xs k) h
    | _ => .bad)
  | .str z => (match i with
    | .int k => (match atI z.cps.toList k with
      | some c => .ok (.str ⟨#[c]⟩) h
      | none => .bad)
    | _ => .bad)
  | .ref p => (match rd h p with
    | some (.lst xs) => (match i with
      | .int k => opt (atI xs k) h
      | _ => .bad)
    | some (.dct kvs) => (match keyV i with
      | some k => opt (lookK kvs k) h
      | none => .bad)
    | _ => .bad)
  | _ => .bad
theorem VRs.atI {ρ : Nat → Addr} {n : Nat} {H : Hp} {vs : List Val} {xs : List L2.V} {k : Int} {v : Val} (t : VRs g ρ n H vs xs) (e : L2.atI vs k = some v) : ∃ x, L2.atI xs k = some x ∧ VR g ρ n H v x := by
  unfold L2.atI at e ⊢
  rw [← t.length]
  cases z : ixN vs.length k with
  | none => rw [z] at e; cases e
  | some j => rw [z] at e; exact t.get e
def isDctV (v : Val) (h : Heap) : Bool := match v with
  | .ref a => (match rd h a with
    | some (.dct _) => true
    | _ => false)
  | _ => false
theorem so_ix {fa fb : Fe} {ea eb : Expr} {pos : Pos} (hs : isSlice eb = false) (ha : SoE g lv N sc fa ea) (hb : SoE g lv N sc fb eb) : SoE g lv N sc (fun env h => (fa env h).bind fun x h1 => (fb env h1).bind fun y h2 => ixV x y h2) (.Subscript ea eb pos) := by
  intro X W G ρ h H env σ Q r er q
  by_cases hd : ∃ x h1 y h2, fa env h = .ok x h1 ∧ fb env h1 = .ok y h2 ∧ isDctV x h2 = true
  · obtain ⟨x0, h10, y0, h20, E1, E2, E3⟩ := hd
    refine (pe_dget (hu1 G) (self_e X ea) (self_e X eb) (plain_ix hs)).se ?_
    refine op2 (r := fun x y H2 Q => ∃ a v, x = .ref a ∧ DGet H2 a y (some v) ∧ Q v H2) G ha hb r er q fun x h1 y h2 ρ2 H2 vx vy Ea Eb r2 tx ty q2 => ?_
    rw [E1] at Ea; cases Ea
    rw [E2] at Eb; cases Eb
    cases x0 with
    | ref a =>
      unfold isDctV at E3
      dsimp only at E3
      cases za : rd h20 a with
      | none => rw [za] at E3; cases E3
      | some c =>
        cases c with
        | dct kvs =>
          simp only [ixV, za] at q2
          cases zk : keyV y0 with
          | none => rw [zk] at q2; exact q2.elim
          | some k =>
            rw [zk] at q2
            obtain ⟨o, hg, ho⟩ := so_dget G r2 za zk ty
            rcases ho with ⟨a1, rfl⟩ | ⟨v, y', a1, rfl, vy'⟩
            · simp only [a1] at q2; exact q2.elim
            · simp only [a1] at q2
              exact ⟨_, y', tx.of_ref.2, hg, QR.ok (T := VR g) r2 vy' q2⟩
        | lst _ => rw [za] at E3; cases E3
        | ins _ _ => rw [za] at E3; cases E3
    | _ => cases E3
  · refine (pe_ix (ix_seq (X := X)) (self_e X ea) (self_e X eb) (plain_ix hs)).se ?_
    refine op2 G ha hb r er q fun x h1 y h2 ρ2 H2 vx vy Ea Eb r2 tx ty q2 => ?_
    cases x with
    | tup xs =>
      cases y with
      | int k =>
        simp only [ixV] at q2
        cases z : atI xs k with
        | none => rw [z] at q2; exact q2.elim
        | some v =>
          rw [z] at q2
          obtain ⟨a, us, rfl, e1, e2⟩ := tx.of_tup
          cases ty.of_int
          obtain ⟨w, a1, a2⟩ := e2.atI z
          exact .inr (.inl ⟨a, us, k, w, rfl, rfl, by rw [G.hK]; exact e1, a1, QR.ok (T := VR g) r2 a2 q2⟩)
      | _ => exact q2.elim
    | str s =>
      cases y with
      | int k =>
        simp only [ixV] at q2
        obtain ⟨rfl, hs⟩ := tx.of_str
        cases ty.of_int
        split at q2
        · rename_i c z
          exact .inr (.inr ⟨s, k, c, rfl, rfl, hs, z, QR.ok (T := VR g) r2 (VR.str (by show (1 : Nat) ≤ sizeLine; decide)) q2⟩)
        · exact q2.elim
      | _ => exact q2.elim
    | ref a =>
      cases za : rd h2 a with
      | none => simp only [ixV, za] at q2; exact q2.elim
      | some c =>
        cases c with
        | lst xs =>
          cases y with
          | int k =>
            simp only [ixV, za] at q2
            cases z : atI xs k with
            | none => rw [z] at q2; exact q2.elim
            | some v =>
              rw [z] at q2
              obtain ⟨us, e1, e2, _⟩ := r2.lst za
              cases ty.of_int
              obtain ⟨w, a1, a2⟩ := e2.atI z
              exact .inl ⟨_, us, k, w, tx.of_ref.2, rfl, by rw [G.hK]; exact e1, a1, QR.ok (T := VR g) r2 a2 q2⟩
          | _ => simp only [ixV, za] at q2; exact q2.elim
        | dct kvs => exact absurd ⟨_, _, _, _, Ea, Eb, by unfold isDctV; simp only [za]⟩ hd
        | ins _ _ => simp only [ixV, za] at q2; exact q2.elim
    | _ => exact q2.elim
/-! ### a[lo:hi], xs[::-1] -/
abbrev SPo (X : Cx) (e : Option Expr) : TO := fun σ H Q => ∀ (pins : List (Addr × Obj)) (s : Shared), Inv X pins σ H s → wpAny (model X.prog X.w) X.A (evalPart e X.env) (fun u s' => ∃ o H', Inv X pins σ H' s' ∧ IsPart u o ∧ Q o H') X.xe s
theorem self_po (X : Cx) (e : Option Expr) : PO X e (SPo X e) := ⟨fun pins s σ H Q I h => h pins s I⟩
theorem _root_.L2.PO.se {X : Cx} {e : Option Expr} {t : TO} (h : PO X e t) {σ : L2.St} {H : Hp} {Q : Option Int → Hp → Prop} (q : t σ H Q) : SPo X e σ H Q := fun pins s I => h.run pins s σ H Q I q
def SoP (g : G) (lv : Nat) (N : List Str) (sc : Scope) (f : Env → Heap → Rs (Option Int)) (e : Option Expr) : Prop :=
  ∀ (X : Cx) (W : WX), Good g X N sc W lv → ∀ (ρ : Nat → Addr) (h : Heap) (H : Hp) (env : Env) (σ : L2.St) (Q : Option Int → Hp → Prop), Rel g ρ h H → ER g ρ h.length H env σ → QR g (fun _ _ _ a b => a = b) W ρ h H σ (f env h) Q → SPo X e σ H Q
theorem sp_none : SoP g lv N sc (fun _ h => .ok none h) none := by
  intro X W G ρ h H env σ Q r er q
  exact po_none.se (QR.ok (T := fun _ _ _ a b => a = b) r rfl q)
def ePart (f : Fe) : Env → Heap → Rs (Option Int) := fun env h => (f env h).bind fun v h1 => match v with
  | .int k => .ok (some k) h1
  | _ => .bad
theorem sp_some {f : Fe} {e : Expr} (he : SoE g lv N sc f e) : SoP g lv N sc (ePart f) (some e) := by
  intro X W G ρ h H env σ Q r er q
  refine (po_some (self_e X e)).se ?_
  refine he X W G ρ h H env σ _ r er (QR.imp (QR.bind q) fun x H1 ⟨ρ1, h1, v, s1, r1, t1, _, q1⟩ => ?_)
  cases v with
  | int k => exact ⟨k, t1.of_int, QR.ok (T := fun _ _ _ a b => a = b) r1 rfl q1⟩
  | _ => exact q1.elim
theorem VRs.drop {ρ : Nat → Addr} {n : Nat} {H : Hp} : ∀ {vs : List Val} {xs : List L2.V} (k : Nat), VRs g ρ n H vs xs → VRs g ρ n H (vs.drop k) (xs.drop k)
  | _, _, 0, t => t
  | [], xs, k + 1, t => by rw [VRs] at t; subst t; show VRs g ρ n H [] []; rw [VRs]
  | v :: vs, xs, k + 1, t => by
    rw [VRs] at t
    obtain ⟨x, r, rfl, _, t2⟩ := t
    exact VRs.drop k t2
theorem VRs.take {ρ : Nat → Addr} {n : Nat} {H : Hp} : ∀ {vs : List Val} {xs : List L2.V} (k : Nat), VRs g ρ n H vs xs → VRs g ρ n H (vs.take k) (xs.take k)
  | vs, xs, 0, t => by rw [List.take_zero, List.take_zero, VRs]
  | [], xs, k + 1, t => by rw [VRs] at t; subst t; show VRs g ρ n H [] []; rw [VRs]
  | v :: vs, xs, k + 1, t => by
    rw [VRs] at t
    obtain ⟨x, r, rfl, t1, t2⟩ := t
    rw [List.take_succ_cons, List.take_succ_cons, VRs]
    exact ⟨x, _, rfl, t1, VRs.take k t2⟩
theorem VRs.cut {ρ : Nat → Addr} {n : Nat} {H : Hp} {vs : List Val} {xs : List L2.V} (t : VRs g ρ n H vs xs) (lo hi : Option Int) : VRs g ρ n H (MP.cut vs lo hi) (cutV xs lo hi) := by
  unfold MP.cut cutV
  rw [← t.length]
  exact (t.drop _).take _
theorem VRs.reverse {ρ : Nat → Addr} {n : Nat} {H : Hp} : ∀ {vs : List Val} {xs : List L2.V}, VRs g ρ n H vs xs → VRs g ρ n H vs.reverse xs.reverse
  | [], xs, t => by rw [VRs] at t; subst t; show VRs g ρ n H [] []; rw [VRs]
  | v :: vs, xs, t => by
    rw [VRs] at t
    obtain ⟨x, r, rfl, t1, t2⟩ := t
    rw [List.reverse_cons, List.reverse_cons]
    refine (VRs.reverse t2).append ?_
    rw [VRs]
    exact ⟨x, [], rfl, t1, by rw [VRs]⟩
theorem cut_len {α : Type} (xs : List α) (lo hi : Option Int) : (cut xs lo hi).length ≤ xs.length := by
  unfold cut
  rw [List.length_take, List.length_drop]; omega
theorem cutS_len (z : Str) (lo hi : Option Int) : (cutS z lo hi).length ≤ z.length := by
  show (cutS z lo hi).cps.size ≤ z.cps.size
  unfold cutS
  simp
  omega
def slV (v : Val) (lo hi : Option Int) (h : Heap) : Rs Val := match v with
  | .ref a => (match rd h a with
    | some (.lst xs) => al h (.lst (cut xs lo hi))
    | _ => .bad)
  | .str z => .ok (.str (cutS z lo hi)) h
  | .tup xs => if (HT.sIx xs.length 0 lo = 0 ∧ HT.sIx xs.length xs.length hi = xs.length) ∨ cut xs lo hi = [] then .bad else .ok (.tup (cut xs lo hi)) h
  | _ => .bad
def eSl (f : Fe) (fl fh : Env → Heap → Rs (Option Int)) : Fe := fun env h => (f env h).bind fun v h1 => (fl env h1).bind fun lo h2 => (fh env h2).bind fun hi h3 => slV v lo hi h3
theorem so_slice {f : Fe} {fl fh : Env → Heap → Rs (Option Int)} {e : Expr} {lo hi : Option Expr} {p pos : Pos} (he : SoE g lv N sc f e) (hl : SoP g lv N sc fl lo) (hh : SoP g lv N sc fh hi) : SoE g lv N sc (eSl f fl fh) (.Subscript e (.Slice lo hi none p) pos) := by
  intro X W G ρ h H env σ Q r er q
  refine (pe_slice ((sl_list (X := X)).or (sl_tup.or sl_str)) (self_e X e) (self_po X lo) (self_po X hi)).se ?_
  refine he X W G ρ h H env σ _ r er (QR.imp (QR.bind q) fun x H1 ⟨ρ1, h1, v, s1, r1, t1, _, q1⟩ => ?_)
  have er1 := er.step r s1
  refine hl X W G ρ1 h1 H1 env σ _ r1 er1 (QR.imp (QR.bind q1) fun l H2 ⟨ρ2, h2, l', s2, r2, t2, _, q2⟩ => ?_)
  cases t2
  have er2 := er1.step r1 s2
  refine hh X W G ρ2 h2 H2 env σ _ r2 er2 (QR.imp (QR.bind q2) fun u H3 ⟨ρ3, h3, u', s3, r3, t3, _, q3⟩ => ?_)
  cases t3
  have t1 := (t1.step r1 s2).step r2 s3
  cases v with
  | ref a =>
    cases za : rd h3 a with
    | none => simp only [slV, za] at q3; exact q3.elim
    | some c =>
      cases c with
      | lst xs =>
        simp only [slV, za] at q3
        obtain ⟨us, e1, e2, hz⟩ := r3.lst za
        refine .inl ⟨_, us, t1.of_ref.2, by rw [G.hK]; exact e1, fun p hp => ?_⟩
        exact new_lst r3 (Nat.le_trans (cut_len _ _ _) hz) (e2.cut l u) q3 p hp
      | dct _ => simp only [slV, za] at q3; exact q3.elim
      | ins _ _ => simp only [slV, za] at q3; exact q3.elim
  | str z =>
    obtain ⟨rfl, hz⟩ := t1.of_str
    exact .inr (.inr ⟨z, rfl, hz, QR.ok (T := VR g) r3 (VR.str (Nat.le_trans (cutS_len _ _ _) hz)) q3⟩)
  | tup xs =>
    obtain ⟨a, us, rfl, e1, e2⟩ := t1.of_tup
    simp only [slV] at q3
    by_cases hw : (HT.sIx xs.length 0 l = 0 ∧ HT.sIx xs.length xs.length u = xs.length) ∨ cut xs l u = []
    · rw [if_pos hw] at q3; exact q3.elim
    · rw [if_neg hw] at q3
      obtain ⟨hw, hne⟩ := not_or.mp hw
      exact .inr (.inl ⟨a, us, rfl, by rw [G.hK]; exact e1, by rw [← e2.length]; exact hw, fun p hp => new_tup r3 hne (e2.cut l u) q3 p hp⟩)
  | _ => exact q3.elim
def eRev (f : Fe) : Fe := fun env h => (f env h).bind fun v h1 => match v with
  | .ref a => (match rd h1 a with
    | some (.lst xs) => al h1 (.lst xs.reverse)
    | _ => .bad)
  | _ => .bad
theorem so_rev {f : Fe} {e : Expr} {k : Nat} {p1 p2 p3 pos : Pos} (he : SoE g lv N sc f e) : SoE g lv N sc (eRev f) (.Subscript e (.Slice none none (some (.UnaryOp .USub (.Constant (.int 1) k p1) p2)) p3) pos) := by
  intro X W G ρ h H env σ Q r er q
  refine (pe_revL (self_e X e)).se ?_
  refine he X W G ρ h H env σ _ r er (QR.imp (QR.bind q) fun x H1 ⟨ρ1, h1, v, s1, r1, t1, _, q1⟩ => ?_)
  cases v with
  | ref a =>
    dsimp only at q1
    cases za : rd h1 a with
    | none => rw [za] at q1; exact q1.elim
    | some c =>
      rw [za] at q1
      cases c with
      | lst xs =>
        obtain ⟨us, e1, e2, hz⟩ := r1.lst za
        exact ⟨_, us, t1.of_ref.2, by rw [G.hK]; exact e1, fun p hp => new_lst r1 (by rw [List.length_reverse]; exact hz) e2.reverse q1 p hp⟩
      | dct _ => exact q1.elim
      | ins _ _ => exact q1.elim
  | _ => exact q1.elim

/-! ### built-in functions -/
abbrev SCl (X : Cx) (f : Value) : List L2.V → Hp → VK → Prop := fun vs H Q => ∀ (pins : List (Addr × Obj)) (s : Shared) (σ : L2.St) (us : List Value), Inv X pins σ H s → Vals vs us → wpAny (model X.prog X.w) X.A (call f us) (EP X pins σ Q) X.xe s
theorem self_cl (X : Cx) (f : Value) : CallR X f (SCl X f) := fun pins s σ H xs us Q I r h => h pins s σ us I r
theorem _root_.L2.CallR.se {X : Cx} {f : Value} {r : List L2.V → Hp → VK → Prop} (ho : CallR X f r) {xs : List L2.V} {H : Hp} {Q : VK} (h : r xs H Q) : SCl X f xs H Q := fun pins s σ us I rv => ho pins s σ H xs us Q I rv h
def SoF (g : G) (lv : Nat) (f : Value) (fo : List Val → Heap → Rs Val) : Prop :=
  ∀ (X : Cx) (W : WX) (N : List Str) (sc : Scope), Good g X N sc W lv → ∀ (ρ : Nat → Addr) (h : Heap) (H : Hp) (σ : L2.St) (vs : List Val) (xs : List L2.V) (Q : VK), Rel g ρ h H → VRs g ρ h.length H vs xs → QR g (VR g) W ρ h H σ (fo vs h) Q → SCl X f xs H Q
theorem so_bf {id : String} {fo : List Val → Heap → Rs Val} {fs : Env → Heap → Rs (List Val)} {x : Str} {e : Expr} {es : List Expr} {p pos : Pos} (hf : SoF g lv (.builtin id) fo) (hx : sc.names.lookup x = some .globalImplicit) (hm : g.mg x = none) (hv : bootBuiltins x = some (.builtin id)) (hn : x ≠ "__name__") (hdb : (x == ("__debug__" : Str)) = false)
    (hs : (e :: es).all (fun e => !isSt e) = true) (ha : SoA g lv N sc fs (e :: es)) : SoE g lv N sc (fun env h => (fs env h).bind fo) (.Call (.Name x p) (e :: es) [] pos) := by
  intro X W G ρ h H env σ Q r er q
  simp only [List.all_cons, Bool.and_eq_true, Bool.not_eq_true'] at hs
  refine (pe_callB (self_cl X _) (G.gl hx) (by rw [G.hmg]; exact hm) hv (self_a X (e :: es)) hn hdb (starEach_plain hs.1 es X.env) (noStar hs.2 pos X.env)).se ?_
  refine ha X W G ρ h H env σ _ r er (QR.imp (QR.bind q) fun xs H1 ⟨ρ1, h1, vs, s1, r1, t1, _, q1⟩ => ?_)
  exact hf X W N sc G ρ1 h1 H1 σ vs xs Q r1 t1 q1
theorem so_bt {T : String} {fo : List Val → Heap → Rs Val} {fs : Env → Heap → Rs (List Val)} {x : Str} {e : Expr} {es : List Expr} {p pos : Pos} (hf : SoF g lv (.type T) fo) (hx : sc.names.lookup x = some .globalImplicit) (hm : g.mg x = none) (hv : bootBuiltins x = some (.type T)) (hn : x ≠ "__name__") (hdb : (x == ("__debug__" : Str)) = false)
    (hs : (e :: es).all (fun e => !isSt e) = true) (ha : SoA g lv N sc fs (e :: es)) : SoE g lv N sc (fun env h => (fs env h).bind fo) (.Call (.Name x p) (e :: es) [] pos) := by
  intro X W G ρ h H env σ Q r er q
  simp only [List.all_cons, Bool.and_eq_true, Bool.not_eq_true'] at hs
  refine (pe_callTy (self_cl X _) (G.gl hx) (by rw [G.hmg]; exact hm) hv (self_a X (e :: es)) hn hdb (starEach_plain hs.1 es X.env) (noStar hs.2 pos X.env)).se ?_
  refine ha X W G ρ h H env σ _ r er (QR.imp (QR.bind q) fun xs H1 ⟨ρ1, h1, vs, s1, r1, t1, _, q1⟩ => ?_)
  exact hf X W N sc G ρ1 h1 H1 σ vs xs Q r1 t1 q1
/-- one argument -/
def f1 (f : Val → Heap → Rs Val) (vs : List Val) (h : Heap) : Rs Val := match vs with
  | [v] => f v h
  | _ => .bad
def SoF1 (g : G) (lv : Nat) (f : Value) (fo : Val → Heap → Rs Val) : Prop :=
  ∀ (X : Cx) (W : WX) (N : List Str) (sc : Scope), Good g X N sc W lv → ∀ (ρ : Nat → Addr) (h : Heap) (H : Hp) (σ : L2.St) (v : Val) (x : L2.V) (Q : VK), Rel g ρ h H → VR g ρ h.length H v x → QR g (VR g) W ρ h H σ (fo v h) Q → SCl X f [x] H Q
theorem SoF1.f {f : Value} {fo : Val → Heap → Rs Val} (k : SoF1 g lv f fo) : SoF g lv f (f1 fo) := by
  intro X W N sc G ρ h H σ vs xs Q r t q
  match vs, q, t with
  | [], q, _ => exact q.elim
  | _ :: _ :: _, q, _ => exact q.elim
  | [v], q, t =>
    rw [VRs] at t
    obtain ⟨x, xr, rfl, t1, t2⟩ := t
    rw [VRs] at t2
    subst t2
    exact k X W N sc G ρ h H σ v x Q r t1 q
def lenV (v : Val) (h : Heap) : Rs Val := match v with
  | .str z => .ok (.int z.length) h
  | .tup xs => .ok (.int xs.length) h
  | .ref a => (match h[a]? with
    | some (_, .lst xs) => .ok (.int xs.length) h
    | some (false, .dct kvs) => .ok (.int kvs.length) h
    | _ => .bad)
  | _ => .bad
theorem bf_len : SoF1 g lv (.builtin "len") lenV := by
  intro X W N sc G ρ h H σ v x Q r t q
  cases v with
  | str z =>
    obtain ⟨rfl, hz⟩ := t.of_str
    exact call_len.se ⟨_, z.length, rfl, ⟨hz, rfl⟩, QR.ok (T := VR g) r VR.int q⟩
  | tup vs =>
    obtain ⟨a, xs, rfl, e1, e2⟩ := t.of_tup
    exact call_len.se ⟨_, vs.length, rfl, .inr ⟨xs, by rw [G.hK]; exact e1, e2.length⟩, QR.ok (T := VR g) r VR.int q⟩
  | ref a =>
    obtain ⟨_, rfl⟩ := t.of_ref
    cases z : h[a]? with
    | none => simp only [lenV, z] at q; exact q.elim
    | some c =>
      obtain ⟨b, c⟩ := c
      cases c with
      | lst vs =>
        simp only [lenV, z] at q
        obtain ⟨xs, e1, e2, _⟩ := r.lst (i := a) (vs := vs) (by unfold rd; rw [z]; rfl)
        exact call_len.se ⟨_, vs.length, rfl, .inl ⟨xs, by rw [G.hK]; exact e1, e2.length⟩, QR.ok (T := VR g) r VR.int q⟩
      | dct kvs =>
        cases b with
        | true => simp only [lenV, z] at q; exact q.elim
        | false =>
          simp only [lenV, z] at q
          obtain ⟨_, xs, e1, e2⟩ := r.obj a false _ z
          exact call_lenD.se ⟨_, xs, rfl, e1, by rw [← e2.length]; exact QR.ok (T := VR g) r VR.int q⟩
      | ins _ _ => simp only [lenV, z] at q; exact q.elim
  | _ => exact q.elim
def intV (v : Val) (h : Heap) : Rs Val := match v with
  | .int i => .ok (.int i) h
  | .bl b => .ok (.int (if b then 1 else 0)) h
  | _ => .bad
theorem bf_int : SoF1 g lv (.type "int") intV := by
  intro X W N sc G ρ h H σ v x Q r t q
  cases v with
  | int i => cases t.of_int; exact call_int1.se (.inl ⟨i, rfl, QR.ok (T := VR g) r VR.int q⟩)
  | bl b => cases t.of_bl; exact call_int1.se (.inr ⟨b, rfl, QR.ok (T := VR g) r VR.int q⟩)
  | _ => exact q.elim
theorem KR.keys {ρ : Nat → Addr} {n : Nat} {H : Hp} : ∀ {vs : List (Key × Val)} {xs : List (Key × L2.V)}, KR g ρ n H vs xs → xs.map (·.1) = vs.map (·.1)
  | [], xs, t => by rw [KR] at t; subst t; rfl
  | (k, v) :: vs, xs, t => by
    rw [KR] at t
    obtain ⟨x, r, rfl, _, t2⟩ := t
    rw [List.map_cons, List.map_cons, KR.keys t2]
theorem VRs.of_keys {ρ : Nat → Addr} {n : Nat} {H : Hp} : ∀ (ks : List Key), (∀ k ∈ ks, KOk k) → VRs g ρ n H (ks.map vKey) (ks.map kV)
  | [], _ => by show VRs g ρ n H [] []; rw [VRs]
  | k :: ks, hk => by
    rw [List.map_cons, List.map_cons, VRs]
    exact ⟨_, _, rfl, VR.key (hk k List.mem_cons_self), VRs.of_keys ks fun k' h' => hk k' (List.mem_cons_of_mem _ h')⟩
def listV (v : Val) (h : Heap) : Rs Val := match v with
  | .tup xs => if xs.length ≤ lim then al h (.lst xs) else .bad
  | .ref a => (match rd h a with
    | some (.lst xs) => al h (.lst xs)
    | some (.dct kvs) => al h (.lst ((kvs.map (·.1)).map vKey))
    | _ => .bad)
  | _ => .bad
theorem bf_list : SoF1 g lv (.type "list") listV := by
  intro X W N sc G ρ h H σ v x Q r t q
  cases v with
  | tup vs =>
    obtain ⟨a, xs, rfl, e1, e2⟩ := t.of_tup
    simp only [listV] at q
    by_cases hl : vs.length ≤ lim
    · rw [if_pos hl] at q
      exact call_list_of.se ⟨a, xs, rfl, .inr (by rw [G.hK]; exact e1), fun p hp => new_lst r (lim_le hl) e2 q p hp⟩
    · rw [if_neg hl] at q; exact q.elim
  | ref a =>
    obtain ⟨_, rfl⟩ := t.of_ref
    cases z : rd h a with
    | none => simp only [listV, z] at q; exact q.elim
    | some c =>
      cases c with
      | lst vs =>
        simp only [listV, z] at q
        obtain ⟨xs, e1, e2, hz⟩ := r.lst z
        exact call_list_of.se ⟨_, xs, rfl, .inl (by rw [G.hK]; exact e1), fun p hp => new_lst r hz e2 q p hp⟩
      | dct kvs =>
        simp only [listV, z] at q
        obtain ⟨xs, e1, e2, hz⟩ := r.dct z
        refine (call_listD G.calm).se ⟨_, xs, rfl, e1, fun p hp => ?_⟩
        have ek : (xs.map fun kv => kV kv.1) = (kvs.map (·.1)).map kV := by rw [← e2.keys, List.map_map]; rfl
        rw [ek]
        refine new_lst r (by simp only [List.length_map]; exact hz.1) (VRs.of_keys _ fun k hk => ?_) q p hp
        obtain ⟨kv, hkv, rfl⟩ := List.mem_map.mp hk
        exact hz.2 kv hkv
      | ins _ _ => simp only [listV, z] at q; exact q.elim
  | _ => exact q.elim
def tupleV (v : Val) (h : Heap) : Rs Val := match v with
  | .tup xs => .ok (.tup xs) h
  | .ref a => (match rd h a with
    | some (.lst xs) => .ok (.tup xs) h
    | _ => .bad)
  | _ => .bad
theorem call_tuple0 {X : Cx} : CallR X (.type "tuple") (fun xs H Q => ∃ p : Addr, xs = [.ref p] ∧ SqL X.K H p [] ∧ ∀ l, H l = none → Q (.ref l) (upd H l (.frz { cls := .type "tuple", data := .seq #[] } (.tup [])))) := by
  intro pins s σ H xs us Q I r h
  obtain ⟨p, rfl, hq, q⟩ := h
  obtain ⟨u, rfl, rx⟩ := vals1 r
  cases rx
  obtain ⟨its, r', pl, hz⟩ := I.list hq
  cases r'
  refine call_tuple_list pl.isList (fun h' kp => ?_) (by decide)
  have I1 : Inv X pins σ H { s with heap := h' } := I.kept (t' := s.toks) kp
  have I2 : Inv X pins σ (upd H h'.objs.size (.frz { cls := .type "tuple", data := .seq #[] } (.tup []))) { s with heap := h'.push { cls := .type "tuple", data := .seq #[] } } :=
    I1.laid (t' := s.toks) (fun b o e => Heap.get?_push_of_some _ e) (Nat.le_refl _) (show ObjOk X.prog X.w _ _ _ (.frz _ (.tup [])) from ⟨Heap.get?_push_size _ rfl, by decide, [], .nil, PyProof.Rows.IsTup.new _ _⟩)
  exact ⟨.ref h'.objs.size, _, I2, rfl, q _ (I1.hok.fresh (Nat.le_refl _))⟩
theorem bf_tuple : SoF1 g lv (.type "tuple") tupleV := by
  intro X W N sc G ρ h H σ v x Q r t q
  cases v with
  | tup vs =>
    have t' := t
    obtain ⟨a, xs, rfl, e1, e2⟩ := t.of_tup
    exact call_tuple_of.se ⟨a, xs, rfl, .inr ⟨by rw [G.hK]; exact e1, QR.ok (T := VR g) r t' q⟩⟩
  | ref a =>
    obtain ⟨_, rfl⟩ := t.of_ref
    cases z : rd h a with
    | none => simp only [tupleV, z] at q; exact q.elim
    | some c =>
      cases c with
      | lst vs =>
        simp only [tupleV, z] at q
        obtain ⟨xs, e1, e2, hz⟩ := r.lst z
        by_cases hv : vs = []
        · subst hv
          rw [VRs] at e2
          subst e2
          exact (call_tuple0 (X := X)).se ⟨_, rfl, by rw [G.hK]; exact e1, fun p hp => new_tupE r q p hp⟩
        · exact call_tuple_of.se ⟨_, xs, rfl, .inl ⟨by rw [G.hK]; exact e1, fun p hp => new_tup r hv e2 q p hp⟩⟩
      | dct kvs => simp only [tupleV, z] at q; exact q.elim
      | ins _ _ => simp only [tupleV, z] at q; exact q.elim
  | _ => exact q.elim
end
end MP
end

section
/-! MP, part P: dict(..), sorted, sum, all, any, isinstance; methods of built-in types. -/
set_option autoImplicit false
set_option linter.all false
namespace MP
open PySem L2 PySem.Spec PyProof.Rows
section
variable {g : G} {lv : Nat} {N : List Str} {sc : Scope}

theorem new_dct {ρ : Nat → Addr} {h : Heap} {H : Hp} {σ : L2.St} {W : WX} {Q : VK} (r : Rel g ρ h H) {vs : List (Key × Val)} {xs : List (Key × L2.V)} (hl : DLen vs) (t : KR g ρ h.length H vs xs) (q : QR g (VR g) W ρ h H σ (al h (.dct vs)) Q) (p : Addr) (hp : H p = none) : Q (.ref p) (upd H p (.dK xs)) := by
  have st : Stp ρ (ext ρ h.length p) h (h ++ [(false, .dct vs)]) H (upd H p (.dK xs)) := Stp.alloc r hp
  have t' := t.step r st
  rw [List.length_append, List.length_singleton] at t'
  refine q _ _ _ st (r.alloc hp ⟨hl, xs, upd_same, t'⟩) ?_
  rw [VR]
  exact ⟨by simp, by rw [ext_new]⟩

/-! ### dict(..) -/
def pairsV : List Val → Option (List (Key × Val))
  | [] => some []
  | .tup [k, v] :: r => (match keyV k, pairsV r with
    | some k, some kvs => some ((k, v) :: kvs)
    | _, _ => none)
  | _ => none
theorem pairs_ok {ρ : Nat → Addr} {n : Nat} {H : Hp} : ∀ {vs : List Val} {xs : List L2.V} {kvs : List (Key × Val)}, VRs g ρ n H vs xs → pairsV vs = some kvs →
    ∃ (ps : List Addr) (kxs : List (Key × L2.V)), xs = ps.map V.ref ∧ Paired (fun p kv => SqT g.K H p [kV kv.1, kv.2]) ps kxs ∧ KR g ρ n H kvs kxs ∧ kvs.length = vs.length ∧ ∀ p ∈ kvs, KOk p.1
  | [], xs, kvs, t, e => by
    rw [VRs] at t
    subst t
    cases e
    exact ⟨[], [], rfl, .nil, by rw [KR], rfl, fun p hp => nomatch hp⟩
  | v :: vs, xs, kvs, t, e => by
    rw [VRs] at t
    obtain ⟨x, xr, rfl, t1, t2⟩ := t
    match v, e, t1 with
    | .tup [k, u], e, t1 =>
      unfold pairsV at e
      cases zk : keyV k with
      | none => rw [zk] at e; cases e
      | some k' =>
        cases zr : pairsV vs with
        | none => rw [zk, zr] at e; cases e
        | some kvs' =>
          rw [zk, zr] at e
          cases e
          obtain ⟨ps, kxs, rfl, hp, hk, hl, ho⟩ := pairs_ok t2 zr
          obtain ⟨a, ys, rfl, e1, e2⟩ := t1.of_tup
          rw [VRs] at e2
          obtain ⟨y1, yr, rfl, a1, e2⟩ := e2
          rw [VRs] at e2
          obtain ⟨y2, yr2, rfl, a2, e2⟩ := e2
          rw [VRs] at e2
          subst e2
          have hko := keyV_kok zk a1
          cases keyV_ok zk a1
          refine ⟨a :: ps, (k', y2) :: kxs, rfl, .cons e1 hp, ?_, by rw [List.length_cons, List.length_cons, hl], fun p hp => ?_⟩
          · rw [KR]; exact ⟨y2, kxs, rfl, a2, hk⟩
          · rcases List.mem_cons.mp hp with rfl | hp
            · exact hko
            · exact ho p hp
    | .non, e, _ => cases e
    | .bl _, e, _ => cases e
    | .int _, e, _ => cases e
    | .str _, e, _ => cases e
    | .ref _, e, _ => cases e
    | .cls _, e, _ => cases e
    | .ty _, e, _ => cases e
    | .scr _, e, _ => cases e
    | .tup [], e, _ => cases e
    | .tup [_], e, _ => cases e
    | .tup (_ :: _ :: _ :: _), e, _ => cases e
theorem KR.merge {ρ : Nat → Addr} {n : Nat} {H : Hp} : ∀ {more : List (Key × Val)} {mx : List (Key × L2.V)} {kvs : List (Key × Val)} {kxs : List (Key × L2.V)}, KR g ρ n H more mx → KR g ρ n H kvs kxs → KR g ρ n H (merK kvs more) (mergeK kxs mx)
  | [], mx, kvs, kxs, t, u => by rw [KR] at t; subst t; exact u
  | (k, v) :: more, mx, kvs, kxs, t, u => by
    rw [KR] at t
    obtain ⟨x, r, rfl, t1, t2⟩ := t
    have h := KR.merge (more := more) (mx := r) t2 (KR.put (k := k) t1 u)
    exact h
theorem merK_len : ∀ (more kvs : List (Key × Val)), (merK kvs more).length ≤ kvs.length + more.length
  | [], kvs => Nat.le_refl _
  | (k, v) :: more, kvs => by
    show (merK (setK kvs k v) more).length ≤ _
    have := merK_len more (setK kvs k v)
    have := setK_length kvs k v
    rw [List.length_cons]
    omega
theorem setK_kok {kvs : List (Key × Val)} {k : Key} {v : Val} (h : ∀ p ∈ kvs, KOk p.1) (hk : KOk k) : ∀ p ∈ setK kvs k v, KOk p.1 := fun p hp => by
  unfold setK at hp
  split at hp
  · obtain ⟨q, hq, e⟩ := List.mem_map.mp hp
    split at e <;> (rw [← e]; exact h q hq)
  · rcases List.mem_append.mp hp with hp | hp
    · exact h p hp
    · rw [List.mem_singleton.mp hp]; exact hk
theorem merK_kok : ∀ {more kvs : List (Key × Val)}, (∀ p ∈ more, KOk p.1) → (∀ p ∈ kvs, KOk p.1) → ∀ p ∈ merK kvs more, KOk p.1
  | [], kvs, _, h => h
  | (k, v) :: more, kvs, h1, h2 => merK_kok (more := more) (kvs := setK kvs k v) (fun p hp => h1 p (List.mem_cons_of_mem _ hp)) (setK_kok h2 (h1 _ List.mem_cons_self))
def dictV (v : Val) (h : Heap) : Rs Val := match v with
  | .tup [] => al h (.dct [])
  | .ref a => (match rd h a with
    | some (.dct kvs) => al h (.dct kvs)
    | some (.lst xs) => (match pairsV xs with
      | some kvs => al h (.dct (merK [] kvs))
      | none => .bad)
    | _ => .bad)
  | _ => .bad
theorem Pl.at {X : Cx} {pins : List (Addr × Obj)} {s : Shared} {σ : L2.St} {H : Hp} {a : Addr} (I : Inv X pins σ H s) (h : Pl X.K H a) : PySem.PlainSeq "tuple" s.heap a #[] := by
  obtain ⟨o, n, e, hc, hd, ha⟩ := h
  refine ⟨o, n, ?_, hc, hd, ha⟩
  rcases e with e | e
  · exact (I.hok a _ e).1
  · exact I.kIn a o e
theorem call_dict0 {X : Cx} (hcalm : X.calm = true) : CallR X (.type "dict") (fun xs H Q => ∃ a : Addr, xs = [.ref a] ∧ Pl X.K H a ∧ ∀ p, H p = none → Q (.ref p) (upd H p (.dK []))) := by
  intro pins s σ H xs us Q I r q
  obtain ⟨a, rfl, hq, q⟩ := q
  obtain ⟨u, rfl, rx⟩ := vals1 r
  cases rx
  refine PySem.call_dict_pairs (knd := mixKind X.prog X.w) (kvs := []) (PySem.PairArg.tuple a #[] (fun _ => 0) []) (I.ok.hd hcalm) ⟨hq.at I, rfl, fun j k v e => nomatch e⟩ ⟨rfl, fun i k v e => nomatch e⟩ (by decide) fun h' tk hd' k => ?_
  have hm : (s.heap.objs.size == sysModules) = false := beq_eq_false_iff_ne.mpr (Nat.ne_of_gt I.big)
  exact ⟨.ref s.heap.objs.size, upd H s.heap.objs.size (.dK []), I.laid (t' := tk) (fun b o e => k b o (fun z => nomatch z) e) (Nat.le_refl _) (show ObjOk X.prog X.w _ _ _ (.dK []) from ⟨by decide, hm, [], .nil, hd'⟩), rfl, q _ (I.hok.fresh (Nat.le_refl _))⟩
theorem bf_dict : SoF1 g lv (.type "dict") dictV := by
  intro X W N sc G ρ h H σ v x Q r t q
  cases v with
  | tup vs =>
    cases vs with
    | cons a b => exact q.elim
    | nil =>
      obtain ⟨a, xs, rfl, e1, e2⟩ := t.of_tupA
      rw [VRs] at e2
      exact (call_dict0 G.calm).se ⟨a, rfl, by rw [G.hK]; exact e1.2 e2, fun p hp => new_dct r ⟨by decide, fun p hp => absurd hp List.not_mem_nil⟩ (by rw [KR]) q p hp⟩
  | ref a =>
    obtain ⟨_, rfl⟩ := t.of_ref
    cases z : rd h a with
    | none => simp only [dictV, z] at q; exact q.elim
    | some c =>
      cases c with
      | ins _ _ => simp only [dictV, z] at q; exact q.elim
      | dct kvs =>
        simp only [dictV, z] at q
        obtain ⟨xs, e1, e2, hz⟩ := r.dct z
        exact call_dictD.se ⟨_, xs, rfl, e1, fun p hp => new_dct r hz e2 q p hp⟩
      | lst vs =>
        simp only [dictV, z] at q
        obtain ⟨xs, e1, e2, hz⟩ := r.lst z
        cases zp : pairsV vs with
        | none => rw [zp] at q; exact q.elim
        | some kvs =>
          rw [zp] at q
          obtain ⟨ps, kxs, rfl, hp, hk, hl, ho⟩ := pairs_ok e2 zp
          refine (call_dictP G.calm).se ⟨_, ps, kxs, rfl, by rw [G.hK]; exact e1, by rw [G.hK]; exact hp, fun p hp => ?_⟩
          refine new_dct r ⟨?_, merK_kok ho fun p hp => absurd hp List.not_mem_nil⟩ (hk.merge (by rw [KR])) q p hp
          have := merK_len kvs []
          rw [List.length_nil, Nat.zero_add, hl] at this
          exact Nat.le_trans this hz
  | _ => exact q.elim
end
end MP
end

section
/-! MP, part Q: sorted, sum, all, any, isinstance. -/
set_option autoImplicit false
set_option linter.all false
namespace MP
open PySem L2 PySem.Spec PyProof.Rows

/-! ### texts in order -/
theorem ltCps_eq : ∀ a b : List Nat, ltCps a b = decide (a < b)
  | [], [] => rfl
  | [], b :: t => by simp [ltCps]
  | a :: r, [] => by simp [ltCps]
  | a :: r, b :: t => by
    rw [ltCps, ltCps_eq r t]
    rw [Bool.eq_iff_iff]
    simp [List.cons_lt_cons_iff]
def leS (a b : Str) : Bool := !decide (b.cps.toList < a.cps.toList)
theorem leS_iff {a b : Str} : leS a b = true ↔ a.cps.toList ≤ b.cps.toList := by
  unfold leS; rw [Bool.not_eq_true', decide_eq_false_iff_not, List.not_lt]
theorem leS_total (a b : Str) : leS a b = true ∨ leS b a = true := by
  rw [leS_iff, leS_iff]; exact List.le_total _ _
theorem leS_trans {a b c : Str} (h : leS a b = true) (h' : leS b c = true) : leS a c = true := by
  rw [leS_iff] at *; exact List.le_trans h h'
theorem leS_antisymm {a b : Str} (h : leS a b = true) (h' : leS b a = true) : a = b := by
  rw [leS_iff] at *
  have e := List.le_antisymm h h'
  obtain ⟨⟨l⟩⟩ := a
  obtain ⟨⟨m⟩⟩ := b
  cases (show l = m from e)
  rfl
def insS (x : Str) : List Str → List Str
  | [] => [x]
  | y :: r => if leS x y then x :: y :: r else y :: insS x r
def sortS : List Str → List Str
  | [] => []
  | x :: r => insS x (sortS r)
theorem insS_perm (x : Str) : ∀ r : List Str, (insS x r).Perm (x :: r)
  | [] => .refl _
  | y :: r => by
    unfold insS
    split
    · exact .refl _
    · exact ((insS_perm x r).cons y).trans (.swap x y r)
theorem sortS_perm : ∀ r : List Str, (sortS r).Perm r
  | [] => .refl _
  | x :: r => (insS_perm x _).trans ((sortS_perm r).cons x)
abbrev Up (l : List Str) : Prop := l.Pairwise fun a b => leS a b = true
theorem insS_up (x : Str) : ∀ {r : List Str}, Up r → Up (insS x r)
  | [], _ => List.pairwise_singleton _ _
  | y :: r, h => by
    rw [Up, List.pairwise_cons] at h
    unfold insS
    split
    · rename_i hx
      refine List.pairwise_cons.mpr ⟨fun z hz => ?_, List.pairwise_cons.mpr h⟩
      rcases List.mem_cons.mp hz with rfl | hz
      · exact hx
      · exact leS_trans hx (h.1 z hz)
    · rename_i hx
      refine List.pairwise_cons.mpr ⟨fun z hz => ?_, insS_up x h.2⟩
      rcases List.mem_cons.mp ((insS_perm x r).mem_iff.mp hz) with rfl | hz
      · exact (leS_total _ _).resolve_left hx
      · exact h.1 z hz
theorem sortS_up : ∀ r : List Str, Up (sortS r)
  | [] => .nil
  | x :: r => insS_up x (sortS_up r)
theorem up_unique : ∀ {l m : List Str}, Up l → Up m → l.Perm m → l = m
  | [], m, _, _, p => (List.nil_perm.mp p).symm
  | x :: l, [], _, _, p => absurd p.length_eq (by simp)
  | x :: l, y :: m, hl, hm, p => by
    rw [Up, List.pairwise_cons] at hl hm
    have e : x = y := by
      rcases List.mem_cons.mp (p.mem_iff.mp List.mem_cons_self) with e | hx
      · exact e
      · rcases List.mem_cons.mp (p.mem_iff.mpr List.mem_cons_self) with e | hy
        · exact e.symm
        · exact leS_antisymm (hl.1 y hy) (hm.1 x hx)
    subst e
    rw [up_unique hl.2 hm.2 (List.Perm.cons_inv p)]
theorem up_sorted : ∀ {l : List Str}, sortedS l = true → Up l
  | [], _ => .nil
  | x :: r, h => by
    have key : ∀ (r : List Str) (x : Str), risingS x r = true → Up (x :: r) := fun r => by
      induction r with
      | nil => intro x _; exact List.pairwise_singleton _ _
      | cons y r ih =>
        intro x h
        simp only [risingS, Bool.and_eq_true, ltCps_eq] at h
        have u := ih y h.2
        have hxy : leS x y = true := h.1
        refine List.pairwise_cons.mpr ⟨fun z hz => ?_, u⟩
        rcases List.mem_cons.mp hz with rfl | hz
        · exact hxy
        · exact leS_trans hxy ((List.pairwise_cons.mp u).1 z hz)
    exact key r x h
theorem sorted_is {l ys : List Str} (p : ys.Perm l) (h : sortedS ys = true) : ys = sortS l := up_unique (up_sorted h) (sortS_up l) (p.trans (sortS_perm l).symm)

section
variable {g : G} {lv : Nat} {N : List Str} {sc : Scope}
def strsV : List Val → Option (List Str)
  | [] => some []
  | .str x :: r => (strsV r).map (x :: ·)
  | _ => none
def intsV : List Val → Option (List Int)
  | [] => some []
  | .int x :: r => (intsV r).map (x :: ·)
  | _ => none
def blsV : List Val → Option (List Bool)
  | [] => some []
  | .bl x :: r => (blsV r).map (x :: ·)
  | _ => none
theorem strs_ok {ρ : Nat → Addr} {n : Nat} {H : Hp} : ∀ {vs : List Val} {xs : List L2.V} {zs : List Str}, VRs g ρ n H vs xs → strsV vs = some zs → xs = zs.map L2.V.str ∧ vs = zs.map Val.str ∧ ∀ z ∈ zs, z.length ≤ sizeLine
  | [], xs, zs, t, e => by cases e; rw [VRs] at t; exact ⟨t, rfl, fun z hz => absurd hz List.not_mem_nil⟩
  | v :: vs, xs, zs, t, e => by
    cases v with
    | str x =>
      simp only [strsV, Option.map_eq_some_iff] at e
      obtain ⟨z, e1, rfl⟩ := e
      rw [VRs] at t
      obtain ⟨y, yr, rfl, t1, t2⟩ := t
      obtain ⟨a, b, c⟩ := strs_ok t2 e1
      refine ⟨by rw [t1.of_str.1, a]; rfl, by rw [b]; rfl, fun w hw => ?_⟩
      rcases List.mem_cons.mp hw with rfl | hw
      · exact t1.of_str.2
      · exact c w hw
    | _ => cases e
theorem ints_ok {ρ : Nat → Addr} {n : Nat} {H : Hp} : ∀ {vs : List Val} {xs : List L2.V} {zs : List Int}, VRs g ρ n H vs xs → intsV vs = some zs → xs = zs.map L2.V.int
  | [], xs, zs, t, e => by cases e; rw [VRs] at t; exact t
  | v :: vs, xs, zs, t, e => by
    cases v with
    | int x =>
      simp only [intsV, Option.map_eq_some_iff] at e
      obtain ⟨z, e1, rfl⟩ := e
      rw [VRs] at t
      obtain ⟨y, yr, rfl, t1, t2⟩ := t
      rw [t1.of_int, ints_ok t2 e1]; rfl
    | _ => cases e
theorem bls_ok {ρ : Nat → Addr} {n : Nat} {H : Hp} : ∀ {vs : List Val} {xs : List L2.V} {zs : List Bool}, VRs g ρ n H vs xs → blsV vs = some zs → xs = zs.map L2.V.bl
  | [], xs, zs, t, e => by cases e; rw [VRs] at t; exact t
  | v :: vs, xs, zs, t, e => by
    cases v with
    | bl x =>
      simp only [blsV, Option.map_eq_some_iff] at e
      obtain ⟨z, e1, rfl⟩ := e
      rw [VRs] at t
      obtain ⟨y, yr, rfl, t1, t2⟩ := t
      rw [t1.of_bl, bls_ok t2 e1]; rfl
    | _ => cases e
theorem VRs.strs {ρ : Nat → Addr} {n : Nat} {H : Hp} : ∀ {zs : List Str}, (∀ z ∈ zs, z.length ≤ sizeLine) → VRs g ρ n H (zs.map Val.str) (zs.map L2.V.str)
  | [], _ => by show VRs g ρ n H [] []; rw [VRs]
  | z :: zs, h => by
    rw [List.map_cons, List.map_cons, VRs]
    exact ⟨_, _, rfl, VR.str (h z List.mem_cons_self), VRs.strs fun w hw => h w (List.mem_cons_of_mem _ hw)⟩
def listOf (v : Val) (h : Heap) : Option (List Val) := match v with
  | .ref a => (match rd h a with
    | some (.lst xs) => some xs
    | _ => none)
  | _ => none
theorem listOf_ok {v : Val} {h : Heap} {vs : List Val} (e : listOf v h = some vs) : ∃ a, v = .ref a ∧ rd h a = some (.lst vs) := by
  cases v with
  | ref a =>
    unfold listOf at e
    dsimp only at e
    split at e
    · rename_i z; cases e; exact ⟨a, rfl, z⟩
    · cases e
  | _ => cases e
def keysS : List (Key × Val) → Option (List Str)
  | [] => some []
  | (.inr x, _) :: r => (keysS r).map (x :: ·)
  | _ => none
theorem keysS_ok : ∀ {kvs : List (Key × Val)} {ks : List Str}, keysS kvs = some ks → kvs.map (·.1) = ks.map Sum.inr
  | [], ks, e => by cases e; rfl
  | (.inr x, v) :: r, ks, e => by
    simp only [keysS, Option.map_eq_some_iff] at e
    obtain ⟨z, e1, rfl⟩ := e
    rw [List.map_cons, List.map_cons, keysS_ok e1]
  | (.inl x, v) :: r, ks, e => by cases e
def sortedV (v : Val) (h : Heap) : Rs Val := match v with
  | .ref a => (match rd h a with
    | some (.lst xs) => (match strsV xs with
      | some zs => if zs.length < 64 then al h (.lst ((sortS zs).map Val.str)) else .bad
      | none => .bad)
    | some (.dct kvs) => (match keysS kvs with
      | some zs => if zs.length < 64 then al h (.lst ((sortS zs).map Val.str)) else .bad
      | none => .bad)
    | _ => .bad)
  | _ => .bad
theorem bf_sorted : SoF1 g lv (.builtin "sorted") sortedV := by
  intro X W N sc G ρ h H σ v x Q r t q
  cases v with
  | ref a =>
    obtain ⟨_, rfl⟩ := t.of_ref
    cases z : rd h a with
    | none => simp only [sortedV, z] at q; exact q.elim
    | some c =>
      cases c with
      | ins _ _ => simp only [sortedV, z] at q; exact q.elim
      | lst vs =>
        simp only [sortedV, z] at q
        obtain ⟨xs, e1, e2, hz⟩ := r.lst z
        cases zs : strsV vs with
        | none => rw [zs] at q; exact q.elim
        | some ss =>
          rw [zs] at q
          obtain ⟨rfl, rfl, hs⟩ := strs_ok e2 zs
          by_cases hl : ss.length < 64
          · simp only [if_pos hl] at q
            refine cr_sortedS.se ⟨_, ss, rfl, by rw [G.hK]; exact e1, hl, fun ys p py sy hp => ?_⟩
            cases sorted_is py sy
            refine new_lst r ?_ (VRs.strs fun w hw => hs w ((sortS_perm ss).mem_iff.mp hw)) q p hp
            rw [List.length_map, (sortS_perm ss).length_eq]; exact small64 hl
          · simp only [if_neg hl] at q; exact q.elim
      | dct kvs =>
        simp only [sortedV, z] at q
        obtain ⟨xs, e1, e2, hz⟩ := r.dct z
        cases zs : keysS kvs with
        | none => rw [zs] at q; exact q.elim
        | some ss =>
          rw [zs] at q
          by_cases hl : ss.length < 64
          · simp only [if_pos hl] at q
            have ek := keysS_ok zs
            refine (call_sortedD G.calm).se ⟨_, xs, ss, rfl, e1, by rw [e2.keys]; exact ek, hl, fun ys p py sy hp => ?_⟩
            cases sorted_is py sy
            refine new_lst r ?_ (VRs.strs fun w hw => ?_) q p hp
            · rw [List.length_map, (sortS_perm ss).length_eq]; exact small64 hl
            · have hw' := (sortS_perm ss).mem_iff.mp hw
              have : (Sum.inr w : Key) ∈ kvs.map (·.1) := by rw [ek]; exact List.mem_map.mpr ⟨w, hw', rfl⟩
              obtain ⟨kv, hkv, e⟩ := List.mem_map.mp this
              have := hz.2 kv hkv
              rw [e] at this
              exact this
          · simp only [if_neg hl] at q; exact q.elim
  | _ => exact q.elim
def sumV (v : Val) (h : Heap) : Rs Val := match (listOf v h).bind intsV with
  | some zs => .ok (.int zs.sum) h
  | none => .bad
theorem bf_sum : SoF1 g lv (.builtin "sum") sumV := by
  intro X W N sc G ρ h H σ v x Q r t q
  unfold sumV at q
  cases z : (listOf v h).bind intsV with
  | none => rw [z] at q; exact q.elim
  | some zs =>
    rw [z] at q
    obtain ⟨vs, e1, e2⟩ := Option.bind_eq_some_iff.mp z
    obtain ⟨a, rfl, e3⟩ := listOf_ok e1
    obtain ⟨_, rfl⟩ := t.of_ref
    obtain ⟨xs, e4, e5, _⟩ := r.lst e3
    cases ints_ok e5 e2
    exact (cr_sum G.calm).se ⟨_, zs, rfl, by rw [G.hK]; exact e4, QR.ok (T := VR g) r VR.int q⟩
def allV (v : Val) (h : Heap) : Rs Val := match (listOf v h).bind blsV with
  | some zs => .ok (.bl (zs.all id)) h
  | none => .bad
theorem bf_all : SoF1 g lv (.builtin "all") allV := by
  intro X W N sc G ρ h H σ v x Q r t q
  unfold allV at q
  cases z : (listOf v h).bind blsV with
  | none => rw [z] at q; exact q.elim
  | some zs =>
    rw [z] at q
    obtain ⟨vs, e1, e2⟩ := Option.bind_eq_some_iff.mp z
    obtain ⟨a, rfl, e3⟩ := listOf_ok e1
    obtain ⟨_, rfl⟩ := t.of_ref
    obtain ⟨xs, e4, e5, _⟩ := r.lst e3
    cases bls_ok e5 e2
    exact (cr_all G.calm).se ⟨_, zs, rfl, by rw [G.hK]; exact e4, QR.ok (T := VR g) r VR.bl q⟩
def anyV (v : Val) (h : Heap) : Rs Val := match (listOf v h).bind blsV with
  | some zs => .ok (.bl (zs.any id)) h
  | none => .bad
theorem bf_any : SoF1 g lv (.builtin "any") anyV := by
  intro X W N sc G ρ h H σ v x Q r t q
  unfold anyV at q
  cases z : (listOf v h).bind blsV with
  | none => rw [z] at q; exact q.elim
  | some zs =>
    rw [z] at q
    obtain ⟨vs, e1, e2⟩ := Option.bind_eq_some_iff.mp z
    obtain ⟨a, rfl, e3⟩ := listOf_ok e1
    obtain ⟨_, rfl⟩ := t.of_ref
    obtain ⟨xs, e4, e5, _⟩ := r.lst e3
    cases bls_ok e5 e2
    exact (cr_any G.calm).se ⟨_, zs, rfl, by rw [G.hK]; exact e4, QR.ok (T := VR g) r VR.bl q⟩

/-! ### isinstance -/
inductive Ty where
  | b (n : String) | c (k : Nat)
  deriving DecidableEq
def tyOf (v : Val) (h : Heap) : Option Ty := match v with
  | .non => some (.b "NoneType")
  | .bl _ => some (.b "bool")
  | .int _ => some (.b "int")
  | .str _ => some (.b "str")
  | .tup _ => some (.b "tuple")
  | .ref a => (match rd h a with
    | some (.lst _) => some (.b "list")
    | some (.dct _) => some (.b "dict")
    | some (.ins c _) => some (.c c)
    | none => none)
  | _ => none
def Ty.v (g : G) : Ty → Value
  | .b n => .type n
  | .c k => .ref (g.C k)
/-- what isinstance asks of a class of one's own -/
structure InsTy (g : G) (c : Nat) : Prop where
  cl : L2.Cls g.K (g.C c)
  ha : PySem.W.findIn g.K (.ref (g.C c)) "__class__" = some (some (.builtin "object.__class__"))
  hn : PySem.W.specialIn g.K (.builtin "object.__class__") "__get__" = some (some (.builtin "getset_descriptor.__get__"))
  htk : PySem.W.takesIn g.K (.builtin "object.__class__") = some true
  hm : PySem.W.mroIn g.K (g.C c) (.type "object") = some true
def isiV (tt : Ty → Ty → Option Bool) (vs : List Val) (h : Heap) : Rs Val := match vs with
  | [v, .ty n] => (match tyOf v h with
    | some t => (match tt t (.b n) with
      | some b => .ok (.bl b) h
      | none => .bad)
    | none => .bad)
  | [v, .cls c] => (match tyOf v h with
    | some t => (match tt t (.c c) with
      | some b => .ok (.bl b) h
      | none => .bad)
    | none => .bad)
  | _ => .bad
structure TtOk (g : G) (tt : Ty → Ty → Option Bool) : Prop where
  ins : ∀ c u b, tt (.c c) u = some b → InsTy g c
  one : ∀ t u b, tt t u = some b → PySem.W.kitOne g.K (t.v g) (u.v g) = some b
theorem tyX_ok {ρ : Nat → Addr} {h : Heap} {H : Hp} (r : Rel g ρ h H) {v : Val} {x : L2.V} {t : Ty} (tv : VR g ρ h.length H v x) (e : tyOf v h = some t) (hi : ∀ c, t = .c c → InsTy g c) : TyX g.K H x (t.v g) := by
  cases v with
  | non => cases e; cases tv.of_non; exact .base .non
  | bl b => cases e; cases tv.of_bl; exact .base (.bl b)
  | int i => cases e; cases tv.of_int; exact .base (.int i)
  | str s => cases e; cases tv.of_str.1; exact .base (.str s)
  | tup vs =>
    cases e
    obtain ⟨a, xs, rfl, e1, _⟩ := tv.of_tup
    rcases e1 with (e1 | ⟨o, e1⟩) | ⟨o, its, n, e1, e2, _⟩
    · exact .base (.tup e1)
    · exact .fTuple e1
    · exact .kTuple e1 e2
  | ref a =>
    obtain ⟨_, rfl⟩ := tv.of_ref
    unfold tyOf at e
    dsimp only at e
    split at e
    · rename_i xs z
      cases e
      obtain ⟨ys, e1, _⟩ := r.lst z
      rcases e1 with (e1 | ⟨o, e1⟩) | ⟨o, its, n, e1, e2, _⟩
      · exact .base (.lst e1)
      · exact .base (.frz e1)
      · exact .kList e1 e2
    · rename_i xs z
      cases e
      obtain ⟨ys, e1, _⟩ := r.dct z
      rcases e1 with e1 | ⟨o, e1⟩
      · exact .base (.dK e1)
      · exact .fDict e1
    · rename_i c fs z
      cases e
      obtain ⟨dx, ys, e1, _⟩ := r.ins z
      have i := hi _ rfl
      exact .base (.ins e1 i.cl i.ha i.hn i.htk i.hm)
    · cases e
  | _ => cases e
theorem bf_isi {tt : Ty → Ty → Option Bool} (T : TtOk g tt) : SoF g lv (.builtin "isinstance") (isiV tt) := by
  intro X W N sc G ρ h H σ vs xs Q r t q
  match vs, q, t with
  | [v, .ty n], q, t =>
    rw [VRs] at t
    obtain ⟨x, xr, rfl, t1, t⟩ := t
    rw [VRs] at t
    obtain ⟨y, xr, rfl, t2, t⟩ := t
    rw [VRs] at t
    subst t
    simp only [isiV] at q
    cases z : tyOf v h with
    | none => rw [z] at q; exact q.elim
    | some ty =>
      rw [z] at q
      dsimp only at q
      cases zt : tt ty (.b n) with
      | none => rw [zt] at q; exact q.elim
      | some b =>
        rw [zt] at q
        rw [VR] at t2
        subst t2
        refine call_isi.se ⟨x, _, _, _, b, rfl, .ty n, by rw [G.hK]; exact tyX_ok r t1 z fun c e => T.ins c _ b (by rw [← e]; exact zt), by rw [G.hK]; exact T.one _ _ _ zt, QR.ok (T := VR g) r VR.bl q⟩
  | [v, .cls c], q, t =>
    rw [VRs] at t
    obtain ⟨x, xr, rfl, t1, t⟩ := t
    rw [VRs] at t
    obtain ⟨y, xr, rfl, t2, t⟩ := t
    rw [VRs] at t
    subst t
    simp only [isiV] at q
    cases z : tyOf v h with
    | none => rw [z] at q; exact q.elim
    | some ty =>
      rw [z] at q
      dsimp only at q
      cases zt : tt ty (.c c) with
      | none => rw [zt] at q; exact q.elim
      | some b =>
        rw [zt] at q
        rw [VR] at t2
        subst t2
        refine call_isi.se ⟨x, _, _, _, b, rfl, .own _, by rw [G.hK]; exact tyX_ok r t1 z fun c e => T.ins c _ b (by rw [← e]; exact zt), by rw [G.hK]; exact T.one _ _ _ zt, QR.ok (T := VR g) r VR.bl q⟩
  | [], q, _ => exact q.elim
  | [_], q, _ => exact q.elim
  | a :: b :: _ :: _, q, _ => cases b <;> exact q.elim
  | [_, .non], q, _ => exact q.elim
  | [_, .bl _], q, _ => exact q.elim
  | [_, .int _], q, _ => exact q.elim
  | [_, .str _], q, _ => exact q.elim
  | [_, .tup _], q, _ => exact q.elim
  | [_, .ref _], q, _ => exact q.elim
  | [_, .scr _], q, _ => exact q.elim
end
end MP
end

section
/-! MP, part R: methods of built-in types. -/
set_option autoImplicit false
set_option linter.all false
namespace MP
open PySem L2 PySem.Spec PyProof.Rows

inductive BK where
  | l | d | s
def BK.T : BK → String
  | .l => "list"
  | .d => "dict"
  | .s => "str"
def bkOf (v : Val) (h : Heap) : Option BK := match v with
  | .str _ => some .s
  | .ref a => (match h[a]? with
    | some (_, .lst _) => some .l
    | some (false, .dct _) => some .d
    | _ => none)
  | _ => none
abbrev Fm := Val → List Val → Heap → Rs Val
abbrev SMt (X : Cx) (id : String) : L2.V → List L2.V → Hp → VK → Prop := fun x xs H Q => ∀ (pins : List (Addr × Obj)) (s : Shared) (σ : L2.St) (v : Value) (us : List Value), Inv X pins σ H s → RelV x v → Vals xs us → wpAny (model X.prog X.w) X.A (call (.builtin id) (v :: us)) (EP X pins σ Q) X.xe s
theorem _root_.L2.MtR.se {X : Cx} {id : String} {r : L2.V → List L2.V → Hp → VK → Prop} (ho : MtR X id r) {x : L2.V} {xs : List L2.V} {H : Hp} {Q : VK} (h : r x xs H Q) : SMt X id x xs H Q := fun pins s σ v us I rx rs => ho pins s σ H x xs v us Q I rx rs h

section
variable {g : G} {lv : Nat} {N : List Str} {sc : Scope}
theorem bk_ty {ρ : Nat → Addr} {h : Heap} {H : Hp} (r : Rel g ρ h H) {v : Val} {x : L2.V} {k : BK} (t : VR g ρ h.length H v x) (e : bkOf v h = some k) : tyV g.K k.T x H := by
  cases v with
  | str z => cases e; cases t.of_str.1; rfl
  | ref a =>
    obtain ⟨_, rfl⟩ := t.of_ref
    cases z : h[a]? with
    | none => simp only [bkOf, z] at e; cases e
    | some c =>
      obtain ⟨b, c⟩ := c
      cases c with
      | lst vs =>
        simp only [bkOf, z] at e
        cases e
        obtain ⟨xs, e1, _⟩ := r.lst (i := a) (vs := vs) (by unfold rd; rw [z]; rfl)
        exact .inl ⟨rfl, xs, e1⟩
      | dct kvs =>
        cases b with
        | true => simp only [bkOf, z] at e; cases e
        | false =>
          simp only [bkOf, z] at e
          cases e
          obtain ⟨_, xs, e1, _⟩ := r.obj a false _ z
          exact .inr (.inr (.inl ⟨rfl, .inl ⟨xs, e1⟩⟩))
      | ins _ _ => simp only [bkOf, z] at e; cases e
  | _ => cases e
structure BmOk (g : G) (lv : Nat) (name : Str) (k : BK) (f : Fm) : Prop where
  ex : ∃ id : String, Slot k.T name id ∧ typeOf (.builtin id) = pure (.type "method_descriptor") ∧ ∀ (X : Cx) (W : WX) (N : List Str) (sc : Scope), Good g X N sc W lv → ∀ (ρ : Nat → Addr) (h : Heap) (H : Hp) (σ : L2.St) (v : Val) (vs : List Val) (x : L2.V) (xs : List L2.V) (Q : VK),
    Rel g ρ h H → VR g ρ h.length H v x → VRs g ρ h.length H vs xs → QR g (VR g) W ρ h H σ (f v vs h) Q → SMt X id x xs H Q
theorem bk_attrs : ∀ k : BK, PlainAttrs k.T
  | .l => PySem.F.plainAttrs_list
  | .d => PySem.F.plainAttrs_dict
  | .s => PySem.F.plainAttrs_str
def eBm (tab : BK → Option Fm) (fo : Fe) (fs : Env → Heap → Rs (List Val)) : Fe := fun env h => (fo env h).bind fun v h1 => match bkOf v h1 with
  | some k => (match tab k with
    | some f => (fs env h1).bind fun vs h2 => f v vs h2
    | none => .bad)
  | none => .bad
theorem few_ok {e : Expr} {es : List Expr} {cpos : Pos} {env : PySem.Env} (hs : (e :: es).all (fun e => !isSt e) = true) (hn : (e :: es).length < 29) : ((backTo cpos (starEach (e :: es) env)).all (fun x => !x.1) && (backToKw cpos (keywordEach [] env)).all (fun x => x.1.isSome)
      && decide ((e :: es).length + ([] : List Keyword).length + (if ([] : List Keyword).isEmpty then 0 else 1) < 30)) = true := by
  have h1 := noStar hs cpos env
  have h2 : (backTo cpos (starEach (e :: es) env)).all (fun x => !x.1) = true := by
    rw [List.all_eq_not_any_not]
    simp only [Bool.not_not]
    rw [h1]; rfl
  rw [h2]
  simp only [Bool.true_and, Bool.and_eq_true, decide_eq_true_eq]
  refine ⟨rfl, ?_⟩
  show (e :: es).length + 0 + 0 < 30
  omega
theorem so_bm {tab : BK → Option Fm} {name : Str} (T : ∀ k f, tab k = some f → BmOk g lv name k f) {fo : Fe} {fs : Env → Heap → Rs (List Val)} {o e : Expr} {es : List Expr} {apos pos : Pos} (hb : noSuper o = true) (hs : (e :: es).all (fun e => !isSt e) = true) (hn : (e :: es).length < 29) (hl : (apos.endLine == pos.line) = true)
    (ho : SoE g lv N sc fo o) (ha : SoA g lv N sc fs (e :: es)) : SoE g lv N sc (eBm tab fo fs) (.Call (.Attribute o name apos) (e :: es) [] pos) := by
  intro X W G ρ h H env σ Q r er q pins s I
  refine wpAny_Call_method_late (base_plain hb name X.env _) (few_ok hs hn) hl rfl (thn (ho X W G ρ h H env σ (fun x H1 => ∀ (s1 : Shared) (v : Value), Inv X pins σ H1 s1 → RelV x v → MethodOn X.prog X.w X.A name pos v (backTo pos (starEach (e :: es) X.env)) (EP X pins σ Q) X.xe s1) r er (QR.imp (QR.bind q) fun x H1 ⟨ρ1, h1, v, s1, r1, t1, _, q1⟩ => ?_) pins s I) fun u s1 ⟨x, H1, I1, rx, k1⟩ => k1 s1 u I1 rx)
  intro s1' u I1 rx
  cases zk : bkOf v h1 with
  | none => rw [zk] at q1; exact q1.elim
  | some k =>
    rw [zk] at q1
    dsimp only at q1
    cases zt : tab k with
    | none => rw [zt] at q1; exact q1.elim
    | some f =>
      rw [zt] at q1
      obtain ⟨id, slot, hty, hok⟩ := (T k f zt).ex
      obtain ⟨e1, e2⟩ := tyV_is I1 rx (by rw [G.hK]; exact bk_ty r1 t1 zk)
      refine ⟨k.T, id, bk_attrs k, slot, hty, e1, e2, ?_⟩
      have hA := ha X W G ρ1 h1 H1 env σ (fun xs H2 => ∀ (s : Shared), Inv X pins σ H2 s → ∀ us, Vals xs us → wpAny (model X.prog X.w) X.A (call (.builtin id) (u :: us)) (EP X pins σ Q) X.xe s) r1 (er.step r s1) (QR.imp (QR.bind q1) fun ys H2 ⟨ρ2, h2, vs, s2, r2, t2, _, q2⟩ => ?_) pos pins s1' I1
      · simp only [List.all_cons, Bool.and_eq_true, Bool.not_eq_true'] at hs
        have hst := starEach_plain hs.1 es X.env
        rw [hst] at hA ⊢
        refine Calls.callWith_builtin (by show (false || (backTo pos (starEach es X.env)).any (·.1)) = false; rw [noStar hs.2 pos X.env] <;> rfl) (Calls.evalArgs_plain ?_)
        exact thn hA fun us s2 ⟨vs, H2, I2, r2, q2⟩ => q2 s2 I2 us r2
      · intro s I us hu
        exact hok X W N sc G ρ2 h2 H2 σ v vs x ys Q r2 (t1.step r1 s2) t2 q2 pins s σ u us I rx hu
theorem so_bm0 {tab : BK → Option Fm} {name : Str} (T : ∀ k f, tab k = some f → BmOk g lv name k f) {fo : Fe} {o : Expr} {apos pos : Pos} (hb : noSuper o = true) (hl : (apos.endLine == pos.line) = true)
    (ho : SoE g lv N sc fo o) : SoE g lv N sc (eBm tab fo fun _ h => .ok [] h) (.Call (.Attribute o name apos) [] [] pos) := by
  intro X W G ρ h H env σ Q r er q pins s I
  refine wpAny_Call_method0_late (base_plain hb name X.env _) hl (thn (ho X W G ρ h H env σ (fun x H1 => ∀ (s1 : Shared) (v : Value), Inv X pins σ H1 s1 → RelV x v → MethodOn X.prog X.w X.A name pos v [] (EP X pins σ Q) X.xe s1) r er (QR.imp (QR.bind q) fun x H1 ⟨ρ1, h1, v, s1, r1, t1, _, q1⟩ => ?_) pins s I) fun u s1 ⟨x, H1, I1, rx, k1⟩ => k1 s1 u I1 rx)
  intro s1' u I1 rx
  cases zk : bkOf v h1 with
  | none => rw [zk] at q1; exact q1.elim
  | some k =>
    rw [zk] at q1
    dsimp only at q1
    cases zt : tab k with
    | none => rw [zt] at q1; exact q1.elim
    | some f =>
      rw [zt] at q1
      obtain ⟨id, slot, hty, hok⟩ := (T k f zt).ex
      obtain ⟨e1, e2⟩ := tyV_is I1 rx (by rw [G.hK]; exact bk_ty r1 t1 zk)
      refine ⟨k.T, id, bk_attrs k, slot, hty, e1, e2, Calls.callWith_builtin rfl (PySem.evalArgs_none ?_)⟩
      exact hok X W N sc G ρ1 h1 H1 σ v [] x [] Q r1 t1 (by rw [VRs]) q1 pins s1' σ u [] I1 rx .nil

/-! ### lists -/
def mAppend : Fm := fun v vs h => match v, vs with
  | .ref a, [y] => (match h[a]? with
    | some (false, .lst xs) => if xs.length < lim then .ok .non (h.set a (false, .lst (xs ++ [y]))) else .bad
    | _ => .bad)
  | _, _ => .bad
def mClearL : Fm := fun v vs h => match v, vs with
  | .ref a, [] => (match h[a]? with
    | some (false, .lst xs) => .ok .non (h.set a (false, .lst []))
    | _ => .bad)
  | _, _ => .bad
def mClearD : Fm := fun v vs h => match v, vs with
  | .ref a, [] => (match h[a]? with
    | some (false, .dct xs) => .ok .non (h.set a (false, .dct []))
    | _ => .bad)
  | _, _ => .bad
def mExtend : Fm := fun v vs h => match v, vs with
  | .ref a, [.ref b] => (match h[a]?, h[b]? with
    | some (false, .lst xs), some (false, .lst ys) => if xs.length + ys.length ≤ lim then .ok .non (h.set a (false, .lst (xs ++ ys))) else .bad
    | _, _ => .bad)
  | _, _ => .bad
def mPop : Fm := fun v vs h => match v, vs with
  | .ref a, [] => (match h[a]? with
    | some (false, .lst xs) => (match xs[xs.length - 1]? with
      | some y => .ok y (h.set a (false, .lst xs.dropLast))
      | none => .bad)
    | _ => .bad)
  | .ref a, [.int i] => (match h[a]? with
    | some (false, .lst xs) => if -(2 ^ 63) ≤ i ∧ i < 2 ^ 63 then (match seqIndex? i xs.length with
      | some k => (match xs[k]? with
        | some y => .ok y (h.set a (false, .lst (xs.eraseIdx k)))
        | none => .bad)
      | none => .bad) else .bad
    | _ => .bad)
  | _, _ => .bad
def mGet : Fm := fun v vs h => match v, vs with
  | .ref a, [k, d] => (match h[a]? with
    | some (_, .dct kvs) => (match keyV k with
      | some k => .ok ((lookK kvs k).getD d) h
      | none => .bad)
    | _ => .bad)
  | _, _ => .bad
def mJoin : Fm := fun v vs h => match v, vs with
  | .str z, [y] => (match (listOf y h).bind strsV with
    | some ys => if (ys.map (·.length)).sum + ys.length * z.length ≤ lim ∧ (Txt.join z ys).length ≤ lim then .ok (.str (Txt.join z ys)) h else .bad
    | none => .bad)
  | _, _ => .bad
def mSplit : Fm := fun v vs h => match v, vs with
  | .str z, [.str b] => if b.length ≠ 0 ∧ z.length + 2 ≤ lim ∧ (Txt.split z b).length ≤ lim ∧ ((Txt.split z b).all fun y => decide (y.length ≤ lim)) = true then al h (.lst ((Txt.split z b).map Val.str)) else .bad
  | _, _ => .bad
def mPartition : Fm := fun v vs h => match v, vs with
  | .str z, [.str b] => if b.length ≠ 0 ∧ (Txt.partition z b).1.length ≤ lim ∧ (Txt.partition z b).2.1.length ≤ lim ∧ (Txt.partition z b).2.2.length ≤ lim then .ok (.tup [.str (Txt.partition z b).1, .str (Txt.partition z b).2.1, .str (Txt.partition z b).2.2]) h else .bad
  | _, _ => .bad

theorem Rel.lset {ρ : Nat → Addr} {h : Heap} {H : Hp} (r : Rel g ρ h H) {a : Nat} {vs us : List Val} {xs : List L2.V} (e : h[a]? = some (false, .lst vs)) (hl : us.length ≤ sizeLine) (t : VRs g ρ h.length H us xs) : Stp ρ ρ h (h.set a (false, .lst us)) H (upd H (ρ a) (.lst xs)) ∧ Rel g ρ (h.set a (false, .lst us)) (upd H (ρ a) (.lst xs)) := by
  have st : Stp ρ ρ h (h.set a (false, .lst us)) H (upd H (ρ a) (.lst xs)) := Stp.write r e
  refine ⟨st, r.write e ⟨hl, xs, upd_same, ?_⟩⟩
  have := t.step r st
  rwa [List.length_set] at this
theorem VRs.dropLast {ρ : Nat → Addr} {n : Nat} {H : Hp} : ∀ {vs : List Val} {xs : List L2.V}, VRs g ρ n H vs xs → VRs g ρ n H vs.dropLast xs.dropLast
  | [], xs, t => by rw [VRs] at t; subst t; show VRs g ρ n H [] []; rw [VRs]
  | [v], xs, t => by
    rw [VRs] at t
    obtain ⟨x, r, rfl, _, t⟩ := t
    rw [VRs] at t
    subst t
    show VRs g ρ n H [] []; rw [VRs]
  | v :: u :: vs, xs, t => by
    rw [VRs] at t
    obtain ⟨x, r, rfl, t1, t⟩ := t
    have ih := VRs.dropLast t
    rw [VRs] at t
    obtain ⟨x', r', rfl, t2, t⟩ := t
    show VRs g ρ n H (v :: (u :: vs).dropLast) (x :: (x' :: r').dropLast)
    rw [VRs]
    exact ⟨x, _, rfl, t1, ih⟩
theorem VRs.eraseIdx {ρ : Nat → Addr} {n : Nat} {H : Hp} : ∀ {vs : List Val} {xs : List L2.V} (k : Nat), VRs g ρ n H vs xs → VRs g ρ n H (vs.eraseIdx k) (xs.eraseIdx k)
  | [], xs, k, t => by rw [VRs] at t; subst t; cases k <;> (show VRs g ρ n H [] []; rw [VRs])
  | v :: vs, xs, 0, t => by
    rw [VRs] at t
    obtain ⟨x, r, rfl, t1, t⟩ := t
    exact t
  | v :: vs, xs, k + 1, t => by
    rw [VRs] at t
    obtain ⟨x, r, rfl, t1, t⟩ := t
    show VRs g ρ n H (v :: vs.eraseIdx k) (x :: r.eraseIdx k)
    rw [VRs]
    exact ⟨x, _, rfl, t1, VRs.eraseIdx k t⟩
theorem VRs.one {ρ : Nat → Addr} {n : Nat} {H : Hp} {v : Val} {xs : List L2.V} (t : VRs g ρ n H [v] xs) : ∃ x, xs = [x] ∧ VR g ρ n H v x := by
  rw [VRs] at t
  obtain ⟨x, r, rfl, t1, t⟩ := t
  rw [VRs] at t
  subst t
  exact ⟨x, rfl, t1⟩
theorem VRs.zero {ρ : Nat → Addr} {n : Nat} {H : Hp} {xs : List L2.V} (t : VRs g ρ n H [] xs) : xs = [] := by rw [VRs] at t; exact t
theorem VRs.two {ρ : Nat → Addr} {n : Nat} {H : Hp} {v u : Val} {xs : List L2.V} (t : VRs g ρ n H [v, u] xs) : ∃ x y, xs = [x, y] ∧ VR g ρ n H v x ∧ VR g ρ n H u y := by
  rw [VRs] at t
  obtain ⟨x, r, rfl, t1, t⟩ := t
  obtain ⟨y, rfl, t2⟩ := t.one
  exact ⟨x, y, rfl, t1, t2⟩
theorem QR.to {ρ ρ' : Nat → Addr} {h h' : Heap} {H H' : Hp} {σ : L2.St} {W : WX} {v : Val} {x : L2.V} {Q : VK} (q : QR g (VR g) W ρ h H σ (.ok v h') Q) (st : Stp ρ ρ' h h' H H') (r : Rel g ρ' h' H') (t : VR g ρ' h'.length H' v x) : Q x H' := q ρ' H' x st r t

theorem bm_append : BmOk g lv "append" .l mAppend := by
  refine ⟨"list.append", PySem.F.slot_list_append, PySem.F.type_list_append, fun X W N sc G ρ h H σ v vs x xs Q r t ts q => ?_⟩
  unfold mAppend at q
  split at q
  · rename_i a y
    obtain ⟨_, rfl⟩ := t.of_ref
    obtain ⟨z, rfl, tz⟩ := ts.one
    split at q
    · rename_i us e
      split at q
      · rename_i hl
        obtain ⟨hz, ys, e1, e2⟩ := r.obj a false _ e
        have ht : VRs g ρ h.length H (us ++ [y]) (ys ++ [z]) := e2.append (by rw [VRs]; exact ⟨z, [], rfl, tz, by rw [VRs]⟩)
        obtain ⟨st, r'⟩ := r.lset e (by rw [List.length_append]; exact lim_le hl) ht
        refine MtR.se mt_append ⟨_, ys, z, rfl, rfl, e1, ?_, q.to st r' VR.non⟩
        rw [← e2.length]
        exact Nat.lt_of_lt_of_le hl (by decide)
      · exact q.elim
    · exact q.elim
  · exact q.elim
theorem bm_clearL : BmOk g lv "clear" .l mClearL := by
  refine ⟨"list.clear", PySem.F.slot_list_clear, PySem.F.type_list_clear, fun X W N sc G ρ h H σ v vs x xs Q r t ts q => ?_⟩
  unfold mClearL at q
  split at q
  · rename_i a
    obtain ⟨_, rfl⟩ := t.of_ref
    cases ts.zero
    split at q
    · rename_i us e
      obtain ⟨hz, ys, e1, e2⟩ := r.obj a false _ e
      obtain ⟨st, r'⟩ := r.lset (us := []) (xs := []) e (Nat.zero_le _) (by rw [VRs])
      exact MtR.se mt_clear ⟨_, ys, rfl, rfl, e1, q.to st r' VR.non⟩
    · exact q.elim
  · exact q.elim
theorem bm_clearD : BmOk g lv "clear" .d mClearD := by
  refine ⟨"dict.clear", PySem.F.slot_dict_clear, PySem.F.type_dict_clear, fun X W N sc G ρ h H σ v vs x xs Q r t ts q => ?_⟩
  unfold mClearD at q
  split at q
  · rename_i a
    obtain ⟨_, rfl⟩ := t.of_ref
    cases ts.zero
    split at q
    · rename_i us e
      obtain ⟨hz, ys, e1, e2⟩ := r.obj a false _ e
      have st : Stp ρ ρ h (h.set a (false, .dct [])) H (upd H (ρ a) (.dK [])) := Stp.write r e
      exact MtR.se mtd_clear ⟨_, ys, rfl, rfl, e1, q.to st (r.write e ⟨⟨Nat.zero_le _, fun p hp => absurd hp List.not_mem_nil⟩, [], upd_same, by rw [KR]⟩) VR.non⟩
    · exact q.elim
  · exact q.elim
theorem bm_extend : BmOk g lv "extend" .l mExtend := by
  refine ⟨"list.extend", PySem.F.slot_list_extend, PySem.F.type_list_extend, fun X W N sc G ρ h H σ v vs x xs Q r t ts q => ?_⟩
  unfold mExtend at q
  split at q
  · rename_i a b
    obtain ⟨_, rfl⟩ := t.of_ref
    obtain ⟨z, rfl, tz⟩ := ts.one
    obtain ⟨_, rfl⟩ := tz.of_ref
    split at q
    · rename_i us ws e e'
      split at q
      · rename_i hl
        obtain ⟨hz, ys, e1, e2⟩ := r.obj a false _ e
        obtain ⟨hz', ys', e1', e2'⟩ := r.obj b false _ e'
        obtain ⟨st, r'⟩ := r.lset e (by rw [List.length_append]; exact lim_le hl) (e2.append e2')
        refine MtR.se mt_extend ⟨_, _, ys, ys', rfl, rfl, e1, e1', ?_, q.to st r' VR.non⟩
        rw [← e2.length, ← e2'.length]
        exact lim_le hl
      · exact q.elim
    · exact q.elim
  · exact q.elim
theorem bm_pop : BmOk g lv "pop" .l mPop := by
  refine ⟨"list.pop", PySem.F.slot_list_pop, PySem.F.type_list_pop, fun X W N sc G ρ h H σ v vs x xs Q r t ts q => ?_⟩
  unfold mPop at q
  split at q
  · rename_i a
    obtain ⟨_, rfl⟩ := t.of_ref
    cases ts.zero
    split at q
    · rename_i us e
      split at q
      · rename_i y ey
        obtain ⟨hz, ys, e1, e2⟩ := r.obj a false _ e
        obtain ⟨w, w1, w2⟩ := e2.get ey
        obtain ⟨st, r'⟩ := r.lset e (by rw [List.length_dropLast]; omega) e2.dropLast
        refine MtR.se mt_pop ⟨_, ys, w, rfl, rfl, e1, by rw [← e2.length]; exact w1, q.to st r' (by rw [List.length_set]; have := w2.step r st; rwa [List.length_set] at this)⟩
      · exact q.elim
    · exact q.elim
  · rename_i a i
    obtain ⟨_, rfl⟩ := t.of_ref
    obtain ⟨z, rfl, tz⟩ := ts.one
    cases tz.of_int
    split at q
    · rename_i us e
      split at q
      · rename_i hi
        split at q
        · rename_i k ek
          split at q
          · rename_i y ey
            obtain ⟨hz, ys, e1, e2⟩ := r.obj a false _ e
            obtain ⟨w, w1, w2⟩ := e2.get ey
            obtain ⟨st, r'⟩ := r.lset e (Nat.le_trans (List.length_eraseIdx_le _ _) hz) (e2.eraseIdx k)
            refine MtR.se mt_popAt ⟨_, ys, i, k, w, rfl, rfl, e1, hi.1, hi.2, by rw [← e2.length]; exact ek, w1, q.to st r' (by rw [List.length_set]; have := w2.step r st; rwa [List.length_set] at this)⟩
          · exact q.elim
        · exact q.elim
      · exact q.elim
    · exact q.elim
  · exact q.elim
theorem mt_dget2 {X : Cx} (hu : X.A.units + 1 < cLine) : MtR X "dict.get" (fun x xs H Q => ∃ a y d o, x = .ref a ∧ xs = [y, d] ∧ DGet H a y o ∧ Q (o.getD d) H) := by
  intro pins s σ H x xs v us Q I rx rs h
  obtain ⟨a, y, d, o, rfl, rfl, hg, q⟩ := h
  cases rx
  obtain ⟨u1, u2, rfl, r1, r2⟩ := vals2 rs
  exact d_get2 hu I hg r1 r2 fun w' s' I' rw' => ⟨_, H, I', rw', q⟩
theorem bm_get : BmOk g lv "get" .d mGet := by
  refine ⟨"dict.get", PySem.F.slot_dict_get, PySem.F.type_dict_get, fun X W N sc G ρ h H σ v vs x xs Q r t ts q => ?_⟩
  unfold mGet at q
  split at q
  · rename_i a k d
    obtain ⟨_, rfl⟩ := t.of_ref
    obtain ⟨y, z, rfl, ty, tz⟩ := ts.two
    split at q
    · rename_i b kvs e
      split at q
      · rename_i k' ek
        obtain ⟨o, hg, ho⟩ := so_dget G r (i := a) (kvs := kvs) (by unfold rd; rw [e]; rfl) ek ty
        refine MtR.se (mt_dget2 (hu1 G)) ⟨_, y, z, o, rfl, rfl, hg, ?_⟩
        rcases ho with ⟨e1, rfl⟩ | ⟨w, w', e1, rfl, tw⟩
        · rw [e1] at q; exact QR.ok (T := VR g) r tz q
        · rw [e1] at q; exact QR.ok (T := VR g) r tw q
      · exact q.elim
    · exact q.elim
  · exact q.elim
theorem lim16 {n : Nat} (h : n ≤ lim) : n ≤ 16777216 := Nat.le_trans h (by decide)
theorem bm_join : BmOk g lv "join" .s mJoin := by
  refine ⟨"str.join", PySem.F.slot_str_join, PySem.F.type_str_join, fun X W N sc G ρ h H σ v vs x xs Q r t ts q => ?_⟩
  unfold mJoin at q
  split at q
  · rename_i z y
    obtain ⟨rfl, _⟩ := t.of_str
    obtain ⟨x', rfl, tx⟩ := ts.one
    split at q
    · rename_i ys e
      split at q
      · rename_i hl
        obtain ⟨us, e1, e2⟩ := Option.bind_eq_some_iff.mp e
        obtain ⟨a, rfl, e3⟩ := listOf_ok e1
        obtain ⟨_, rfl⟩ := tx.of_ref
        obtain ⟨ws, e4, e5, _⟩ := r.lst e3
        obtain ⟨rfl, _, _⟩ := strs_ok e5 e2
        exact mt_join.se ⟨z, _, ys, rfl, rfl, .inl (by rw [G.hK]; exact e4), lim16 hl.1, QR.ok (T := VR g) r (VR.str (lim_le hl.2)) q⟩
      · exact q.elim
    · exact q.elim
  · exact q.elim
theorem bm_split : BmOk g lv "split" .s mSplit := by
  refine ⟨"str.split", PySem.F.slot_str_split, PySem.F.type_str_split, fun X W N sc G ρ h H σ v vs x xs Q r t ts q => ?_⟩
  unfold mSplit at q
  split at q
  · rename_i z b
    obtain ⟨rfl, _⟩ := t.of_str
    obtain ⟨x', rfl, tx⟩ := ts.one
    obtain ⟨rfl, _⟩ := tx.of_str
    split at q
    · rename_i hl
      obtain ⟨h1, h2, h3, h4⟩ := hl
      refine mt_split.se ⟨z, b, rfl, rfl, by simpa using h1, lim_le h2, fun p hp => ?_⟩
      refine new_lst r (by rw [List.length_map]; exact lim_le h3) (VRs.strs fun w hw => lim_le (of_decide_eq_true (List.all_eq_true.mp h4 w hw))) q p hp
    · exact q.elim
  · exact q.elim
theorem bm_partition : BmOk g lv "partition" .s mPartition := by
  refine ⟨"str.partition", PySem.F.slot_str_partition, PySem.F.type_str_partition, fun X W N sc G ρ h H σ v vs x xs Q r t ts q => ?_⟩
  unfold mPartition at q
  split at q
  · rename_i z b
    obtain ⟨rfl, hz⟩ := t.of_str
    obtain ⟨x', rfl, tx⟩ := ts.one
    obtain ⟨rfl, _⟩ := tx.of_str
    split at q
    · rename_i hl
      obtain ⟨h1, h2, h3, h4⟩ := hl
      refine mt_partition.se ⟨z, b, rfl, rfl, by simpa using h1, hz, fun p hp => ?_⟩
      refine new_tup r (by simp) ?_ q p hp
      rw [VRs]
      refine ⟨_, _, rfl, VR.str (lim_le h2), ?_⟩
      rw [VRs]
      refine ⟨_, _, rfl, VR.str (lim_le h3), ?_⟩
      rw [VRs]
      exact ⟨_, _, rfl, VR.str (lim_le h4), by rw [VRs]⟩
    · exact q.elim
  · exact q.elim
end
end MP
end

section
/-! MP, part S: == and != of data. -/
set_option autoImplicit false
set_option linter.all false
namespace MP
open PySem L2 PySem.Spec PyProof.Rows PyProof.V

def allO {α : Type} : List (Option α) → Option (List α)
  | [] => some []
  | some a :: r => (allO r).map (a :: ·)
  | none :: _ => none
/-- data without dicts -/
def toD (h : Heap) : Nat → Val → Option PyData
  | 0, _ => none
  | n + 1, v => (match v with
    | .non => some .none
    | .bl b => some (.bool b)
    | .int i => some (.int i)
    | .str x => some (.str x)
    | .tup vs => (allO (vs.map (toD h n))).map .tuple
    | .ref a => (match rd h a with
      | some (.lst vs) => (allO (vs.map (toD h n))).map .list
      | _ => none)
    | _ => none)
section
variable {g : G} {lv : Nat}
theorem toD_ok {ρ : Nat → Addr} {h : Heap} {H : Hp} (r : Rel g ρ h H) : ∀ (n : Nat) {v : Val} {x : L2.V} {d : PyData}, VR g ρ h.length H v x → toD h n v = some d → Dp g.K H x d
  | 0, v, x, d, _, e => by cases e
  | n + 1, v, x, d, t, e => by
    have all : ∀ {vs : List Val} {xs : List L2.V} {ds : List PyData}, VRs g ρ h.length H vs xs → allO (vs.map (toD h n)) = some ds → DpAll g.K H xs ds := fun {vs} => by
      induction vs with
      | nil => intro xs ds t e; cases e; rw [VRs] at t; subst t; exact .nil
      | cons v vs ih =>
        intro xs ds t e
        rw [VRs] at t
        obtain ⟨y, r', rfl, t1, t2⟩ := t
        rw [List.map_cons] at e
        cases z : toD h n v with
        | none => rw [z] at e; cases e
        | some d =>
          rw [z] at e
          obtain ⟨ds', e1, rfl⟩ := Option.map_eq_some_iff.mp e
          exact .cons (toD_ok r n t1 z) (ih t2 e1)
    cases v with
    | non => cases e; cases t.of_non; exact .non
    | bl b => cases e; cases t.of_bl; exact .bl b
    | int i => cases e; cases t.of_int; exact .int i
    | str s => cases e; cases t.of_str.1; exact .str s
    | tup vs =>
      obtain ⟨ds, e1, rfl⟩ := Option.map_eq_some_iff.mp (show (allO (vs.map (toD h n))).map PyData.tuple = some d from e)
      obtain ⟨a, xs, rfl, e2, e3⟩ := t.of_tup
      exact .tup e2 (all e3 e1)
    | ref a =>
      obtain ⟨_, rfl⟩ := t.of_ref
      simp only [toD] at e
      split at e
      · rename_i vs z
        obtain ⟨ds, e1, rfl⟩ := Option.map_eq_some_iff.mp e
        obtain ⟨xs, e2, e3, _⟩ := r.lst z
        exact .lst e2 (all e3 e1)
      · cases e
    | _ => cases e
def eqVal (v u : Val) (h : Heap) : Option Bool :=
  if flat v && flat u then some (eqF v u) else match toD h 9 v, toD h 9 u with
    | some d, some e => if SeqAt.shaped d && SeqAt.shaped e then some (PyData.eqv d e) else none
    | _, _ => none
def fd : Val → PyData
  | .bl b => .bool b
  | .int i => .int i
  | .str x => .str x
  | _ => .none
theorem eqv_fd {a b : Val} (fa : flat a = true) (fb : flat b = true) : PyData.eqv (fd a) (fd b) = eqF a b := by
  cases a <;> cases b <;> first | rfl | (exact absurd fa Bool.false_ne_true) | (exact absurd fb Bool.false_ne_true) | simp [fd, PyData.eqv, eqF]
theorem flat_at {ρ : Nat → Addr} {n : Nat} {H : Hp} {v : Val} {x : L2.V} {u : Value} (f : flat v = true) (t : VR g ρ n H v x) (r : RelV x u) : Flat u (fd v) := by
  cases v with
  | non => cases t.of_non; cases r; exact Flat.none
  | bl b => cases t.of_bl; cases r; exact Flat.bool b
  | int i => cases t.of_int; obtain ⟨t', rfl⟩ := r; exact Flat.int i t'
  | str s => cases t.of_str.1; obtain ⟨t', rfl⟩ := r; exact Flat.str s t'
  | _ => cases f
theorem eqVal_at {X : Cx} {W : WX} {N : List Str} {sc : Scope} (G : Good g X N sc W lv) {pins : List (Addr × Obj)} {s : Shared} {σ : L2.St} {ρ : Nat → Addr} {h : Heap} {H : Hp} (I : Inv X pins σ H s) (r : Rel g ρ h H) {v u : Val} {x y : L2.V} {vx vy : Value} {b : Bool}
    (tv : VR g ρ h.length H v x) (tu : VR g ρ h.length H u y) (rx : RelV x vx) (ry : RelV y vy) (e : eqVal v u h = some b) : SeqAt.EqAt X.A.in1 s vx vy b := by
  unfold eqVal at e
  split at e
  · rename_i hf
    rw [Bool.and_eq_true] at hf
    cases e
    rw [← eqv_fd hf.1 hf.2]
    exact PySem.W.keq_flat (flat_at hf.1 tv rx) (flat_at hf.2 tu ry)
  · split at e
    · rename_i d d' e1 e2
      split at e
      · rename_i hs
        rw [Bool.and_eq_true] at hs
        cases e
        have h1 := toD_ok r 9 tv e1
        have h2 := toD_ok r 9 tu e2
        rw [← G.hK] at h1 h2
        obtain ⟨as, r1⟩ := Dp.reads I _ _ _ h1 rx
        obtain ⟨bs, r2⟩ := Dp.reads I _ _ _ h2 ry
        exact PySem.W.keq_at r1 r2 hs.1 hs.2 (by have := G.room.un; show X.A.units + 1 + 64 < cLine; omega)
      · cases e
    · cases e
def eqDct (h : Heap) (kb : List (Key × Val)) : List (Key × Val) → Option Bool
  | [] => some true
  | (k, v) :: r => (match lookK kb k with
    | none => some false
    | some u => (match eqVal v u h, eqDct h kb r with
      | some e, some b => some (e && b)
      | _, _ => none))
def dctOf (v : Val) (h : Heap) : Option (List (Key × Val)) := match v with
  | .ref a => (match rd h a with
    | some (.dct kvs) => some kvs
    | _ => none)
  | _ => none
theorem dctOf_ok {v : Val} {h : Heap} {kvs : List (Key × Val)} (e : dctOf v h = some kvs) : ∃ a, v = .ref a ∧ rd h a = some (.dct kvs) := by
  cases v with
  | ref a =>
    unfold dctOf at e
    dsimp only at e
    split at e
    · rename_i z; cases e; exact ⟨a, rfl, z⟩
    · cases e
  | _ => cases e
def eqV (v u : Val) (h : Heap) : Option Bool := match dctOf v h, dctOf u h with
  | some ka, some kb => if ka.length = kb.length then eqDct h kb ka else some false
  | _, _ => eqVal v u h
theorem hits_ok {X : Cx} {W : WX} {N : List Str} {sc : Scope} (G : Good g X N sc W lv) {pins : List (Addr × Obj)} {s : Shared} {σ : L2.St} {ρ : Nat → Addr} {h : Heap} {H : Hp} (I : Inv X pins σ H s) (r : Rel g ρ h H) {kb : List (Key × Val)} {yb : List (Key × L2.V)} {vb : List (Key × Value)}
    (tb : KR g ρ h.length H kb yb) (rb : KV yb vb) : ∀ {ka : List (Key × Val)} {ya : List (Key × L2.V)} {va : List (Key × Value)} {b : Bool}, KR g ρ h.length H ka ya → KV ya va → eqDct h kb ka = some b → PySem.W.KeqHits X.A.in1 s vb va b
  | [], ya, va, b, ta, ra, e => by
    cases e
    rw [KR] at ta
    subst ta
    unfold KV at ra
    cases ra
    exact .nil
  | (k, v) :: ka, ya, va, b, ta, ra, e => by
    rw [KR] at ta
    obtain ⟨x, yr, rfl, t1, t2⟩ := ta
    unfold KV at ra
    cases ra with
    | @cons _ q _ vr hq hr =>
      obtain ⟨k', w'⟩ := q
      obtain ⟨e1, e2⟩ := hq
      cases (show k = k' from e1)
      unfold eqDct at e
      have hv := rb.val k
      rcases tb.look k with ⟨l1, l2⟩ | ⟨u, y, l1, l2, tu⟩
      · rw [l1] at e
        cases e
        rw [l2] at hv
        cases zv : valueAt vb k with
        | none => exact .miss zv
        | some z => rw [zv] at hv; exact hv.elim
      · rw [l1] at e
        dsimp only at e
        rw [l2] at hv
        cases zv : valueAt vb k with
        | none => rw [zv] at hv; exact hv.elim
        | some z =>
          rw [zv] at hv
          split at e
          · rename_i b1 b2 z1 z2
            cases e
            exact .hit zv (eqVal_at G I r t1 tu e2 hv z1) (hits_ok G I r tb rb t2 hr z2)
          · cases e
theorem flat_cmp {X : Cx} (hu : X.A.units + 64 < cLine) {a b : Val} {H : Hp} {Q : VK} (fa : flat a = true) (fb : flat b = true) : (Q (.bl (eqF a b)) H → SOp X (compareOp .Eq) (fv a) (fv b) H Q) ∧ (Q (.bl (!eqF a b)) H → SOp X (compareOp .NotEq) (fv a) (fv b) H Q) := by
  cases a <;> cases b <;> first
    | (exact absurd fa Bool.false_ne_true)
    | (exact absurd fb Bool.false_ne_true)
    | exact ⟨fun q => op_eq.se ⟨rfl, by simpa [fv, eqF, Bool.beq_eq_decide_eq] using q⟩, fun q => op_ne.se ⟨rfl, by simpa [fv, eqF, Bool.beq_eq_decide_eq] using q⟩⟩
    | exact ⟨fun q => (op_eqD hu).se ⟨_, _, .bl _, .int _, rfl, rfl, q⟩, fun q => (op_neD hu).se ⟨_, _, .bl _, .int _, rfl, rfl, q⟩⟩
    | exact ⟨fun q => (op_eqD hu).se ⟨_, _, .int _, .bl _, rfl, rfl, q⟩, fun q => (op_neD hu).se ⟨_, _, .int _, .bl _, rfl, rfl, q⟩⟩
theorem op_eqData {X : Cx} {W : WX} {N : List Str} {sc : Scope} (G : Good g X N sc W lv) {ρ : Nat → Addr} {h : Heap} {H : Hp} {σ0 : L2.St} {x y : Val} {vx vy : L2.V} {Q : VK} {b : Bool} (r : Rel g ρ h H) (tx : VR g ρ h.length H x vx) (ty : VR g ρ h.length H y vy) (e : eqV x y h = some b) :
    (Q (.bl b) H → SOp X (compareOp .Eq) vx vy H Q) ∧ (Q (.bl (!b)) H → SOp X (compareOp .NotEq) vx vy H Q) := by
  have hu : X.A.units + 64 < cLine := by have := G.room.un; omega
  have hu0 : X.A.units < cLine := by omega
  unfold eqV at e
  split at e
  · rename_i ka kb e1 e2
    obtain ⟨a, rfl, z1⟩ := dctOf_ok e1
    obtain ⟨a', rfl, z2⟩ := dctOf_ok e2
    obtain ⟨_, rfl⟩ := tx.of_ref
    obtain ⟨_, rfl⟩ := ty.of_ref
    obtain ⟨ya, h1, h2, _⟩ := r.dct z1
    obtain ⟨yb, h3, h4, _⟩ := r.dct z2
    have key : ∀ {pins : List (Addr × Obj)} {s : Shared} {σ : L2.St}, Inv X pins σ H s → ∃ (va vb : List (Key × Value)) (rr : Bool), (ρ a == sysModules) = false ∧ (ρ a' == sysModules) = false ∧ s.heap.DictOf (mixKind X.prog X.w) (ρ a) va ∧ s.heap.DictOf (mixKind X.prog X.w) (ρ a') vb ∧
        (va.length = vb.length → PySem.W.KeqHits X.A.in1 s vb va rr) ∧ (va.length == vb.length && rr) = b := fun {pins s σ} I => by
      obtain ⟨_, hd, va, ra, da⟩ := dk_rd I.hok h1
      obtain ⟨_, hd', vb, rb, db⟩ := dk_rd I.hok h3
      have la : ka.length = va.length := by rw [h2.length, ra.length]
      have lb : kb.length = vb.length := by rw [h4.length, rb.length]
      split at e
      · rename_i hl
        refine ⟨va, vb, b, hd, hd', da, db, fun _ => hits_ok G I r h4 rb h2 ra e, ?_⟩
        rw [← la, ← lb, hl]; simp
      · rename_i hl
        cases e
        refine ⟨va, vb, true, hd, hd', da, db, fun hh => absurd (by rw [la, lb]; exact hh) hl, ?_⟩
        rw [← la, ← lb]; simp [hl]
    refine ⟨fun q pins s σ v u I rx ry => ?_, fun q pins s σ v u I rx ry => ?_⟩
    · cases rx; cases ry
      obtain ⟨va, vb, rr, s1, s2, da, db, hits, hb⟩ := key I
      exact PySem.W.keq_eq s1 s2 da db hu0 hits (fin_bl I q hb.symm)
    · cases rx; cases ry
      obtain ⟨va, vb, rr, s1, s2, da, db, hits, hb⟩ := key I
      exact PySem.W.keq_ne s1 s2 da db hu0 hits (fin_bl I q (by rw [hb]))
  · unfold eqVal at e
    split at e
    · rename_i hf
      rw [Bool.and_eq_true] at hf
      cases e
      cases tx.flat hf.1
      cases ty.flat hf.2
      exact flat_cmp hu hf.1 hf.2
    · split at e
      · rename_i d d' e1 e2
        split at e
        · rename_i hs
          rw [Bool.and_eq_true] at hs
          cases e
          have h1 := toD_ok r 9 tx e1
          have h2 := toD_ok r 9 ty e2
          rw [← G.hK] at h1 h2
          exact ⟨fun q => (op_eqD hu).se ⟨d, d', h1, h2, hs.1, hs.2, q⟩, fun q => (op_neD hu).se ⟨d, d', h1, h2, hs.1, hs.2, q⟩⟩
        · cases e
      · cases e
end
end MP
end

section
/-! MP, part T: the text's own == != + - * |. -/
set_option autoImplicit false
set_option linter.all false
namespace MP
open PySem L2 PySem.Spec PyProof.Rows
open PySem.W in
theorem ne_body {prog : Program} {w : World} {A : Around} {E : Value → Shared → Prop} {s : Shared} {K : Frag} {x C f : Addr} {ox : Obj} {od : Option Obj} {b : Value} {Q : Fin → Shared → Prop} (hu : A.units < cLine) (X : K.In s.heap) (I : InstAt s.heap x ox C od)
    (he : findIn K (.ref C) "__eq__" = some (some (.ref f))) (hf : isFn K (.ref f) = true)
    (h : wpAny (model prog w) A (call (.ref f) [.ref x, b]) (fun v s' => ∃ k, v = .bool k ∧ Q (.done (.ret (.bool (!k)))) s') E s) : wpAny (model prog w) A (Builtin.«object.__ne__» ⟨[.ref x, b], []⟩) Q E s := by
  unfold Builtin.«object.__ne__»
  repeat (first
    | with_reducible refine wpAny_cRoomFor hu ?_
    | (refine wpAny_bind (m := callSpecialIfBound? (.ref x) (Str.ofString "__eq__") [b])
        (ifBound_K X I he hf (wpAny_mono h (fun r s' hr => by
          obtain ⟨k, rfl, hq⟩ := hr
          repeat (first | exact hq | exact wpAny_pure hq | exact wpAny_truthy_bool hq | (refine wpAny_bind (m := truthy (.bool _)) (wpAny_truthy_bool ?_)) | wp_step)) fun _ _ e => e)))
    | wp_step)
open PySem.W in
theorem ne_K {prog : Program} {w : World} {A : Around} {E : Value → Shared → Prop} {s : Shared} {K : Frag} {x C L f : Addr} {h₀ : PySem.Heap} {m : Str → Option Value} {ox : Obj} {od : Option Obj} {b tb : Value} {Q : Value → Shared → Prop} (hu : A.units + 1 < cLine) (F : Fr h₀ L s.heap m) (X₀ : K.In h₀) (I : InstAt s.heap x ox C od) (hb : Looks (model prog w) s.heap (typeOf b) tb) (hn : notFirst K C tb = true)
    (hs : findIn K (.ref C) "__ne__" = some (some (.builtin "object.__ne__"))) (he : findIn K (.ref C) "__eq__" = some (some (.ref f))) (hf : isFn K (.ref f) = true) (hm : mroIn K C (.type "object") = some true)
    (h : wpAny (model prog w) A.in1 (call (.ref f) [.ref x, b]) (fun v s' => ∃ k, v = .bool k ∧ Q (.bool (!k)) s') E s) : wpAny (model prog w) A (richCompare .NotEq (.ref x) b) Q E s := by
  have X := X₀.keeps F.keep
  have body : wpAny (model prog w) A (call (.builtin "object.__ne__") [.ref x, b]) (fun v s' => ∃ k, v = .bool k ∧ Q (.bool k) s') E s := by
    refine wpAny_call (codeAny_call_builtin PySem.F.cmp_object.ne.plain PySem.F.cmpEntry_ne (check_slot PySem.F.cmpKind_ne PySem.F.cmpSplit_ne ?_ (PySem.F.cmpArgs_ne _ _) ?_))
    · unfold isInstance
      exact I.type.andThen (looks_mroIn X hm)
    · refine ne_body (A := A.in1) hu X I he hf (wpAny_mono h (fun v s' hv => ?_) fun _ _ e => e)
      obtain ⟨k, rfl, hq⟩ := hv
      exact ⟨k, rfl, ⟨!k, rfl, hq⟩⟩
  have one : wpAny (model prog w) A (tryCompare (.ref x) "__ne__" b) (fun r s' => ∃ v, r = some v ∧ Q v s') E s := by
    unfold tryCompare
    refine wpAny_bind ?_
    simp only [callSpecialIfBound?, bindSpecialIfBound?]
    refine wpAny_holding (wpAny_bind (wpAny_bind (wpAny_bind (I.type.here ((looks_findIn X hs).here ?_)))))
    simp only [PySem.F.cmp_object.ne.bind]
    refine wpAny_bind (wpAny_askSetting (wpAny_ite ?_))
    have fin : wpAny (model prog w) A (call (.builtin "object.__ne__") ([.ref x] ++ [b]) >>= fun v => pure (some v)) (fun r s' => wpAny (model prog w) A (match r with | some .notImplemented => pure none | none => pure none | some v => pure (some v)) (fun r s' => ∃ v, r = some v ∧ Q v s') E s') E s :=
      wpAny_bind (wpAny_mono body (fun v s' ⟨k, hk, q⟩ => wpAny_pure (by subst hk; exact wpAny_pure ⟨_, rfl, q⟩)) fun _ _ h' => h')
    split
    · exact wpAny_bind (wpAny_pure (wpAny_pure fin))
    · exact wpAny_tryCatch (wpAny_bind (wpAny_pure (wpAny_pure fin)))
  unfold richCompare
  simp only [oneThing_ref]
  refine wpAny_holding (wpAny_bind (wpAny_cRoomFor (by omega) ?_))
  refine wpAny_bind (I.type.here (wpAny_bind (hb.here ?_)))
  split
  · rename_i q
    have e : subIn K tb (.ref C) = some false := by
      rcases Bool.or_eq_true_iff.mp hn with e | e
      · rw [beq_iff_eq.mp e] at q; simp at q
      · exact beq_iff_eq.mp e
    refine wpAny_bind ((looks_subIn X e).here ?_)
    simp only [Bool.false_eq_true, if_false]
    refine wpAny_bind (wpAny_mono one (fun r s' z => ?_) fun _ _ e => e)
    obtain ⟨v, rfl, hq⟩ := z
    exact wpAny_pure hq
  · refine wpAny_bind (wpAny_pure ?_)
    simp only [Bool.false_eq_true, if_false]
    refine wpAny_bind (wpAny_mono one (fun r s' z => ?_) fun _ _ e => e)
    obtain ⟨v, rfl, hq⟩ := z
    exact wpAny_pure hq
section
variable {g : G} {lv : Nat}
theorem run_callA {X : Cx} {W : WX} {N : List Str} {sc : Scope} (G : Good g X N sc W lv) {A : Around} {k np : Nat} (hr : Room k A) (hfr : A.frames = X.A.frames) {cf : List Val → Heap → Rs Val} {f : Addr} {fd : FuncData} {ps : List Str} {dv : List Val} (D : DOk g k np cf f fd ps) (V : DV g fd ps dv)
    {pins : List (Addr × Obj)} {s : Shared} {ρ : Nat → Addr} {h : Heap} {H : Hp} {σ : L2.St} {args : List Val} {vs : List L2.V} {us : List Value} {Q : VK} (I : Inv X pins σ H s) (r : Rel g ρ h H) (t : VRs g ρ h.length H args vs) (hu : Vals vs us) (hn : (args ++ dv).length = np)
    (q : QR g (VR g) W ρ h H σ (cf (args ++ dv) h) Q) : wpAny (model X.prog X.w) A (call (.ref f) us) (EP X pins σ Q) X.xe s := by
  obtain ⟨ds, dvs, b, hd, hv⟩ := V.ex
  have F := G.fn D.fn
  have hq := spF_of r (t.append (hv ρ h.length H)) hn q
  have r2 : Vals (vs ++ dvs) (us ++ ds) := hu.append hd
  have hl : (us ++ ds).length = ps.length := by rw [← r2.length]; exact F.len _ _ _ _ hq
  have e0 : Env0 X.prog X.w X.K X.mg X.base A X.stack s H := by
    have e := I.env0
    exact ⟨by rw [hfr]; exact e.frames, e.mod, e.bs, e.bsz, e.funs, e.frf, e.hok, e.bare⟩
  refine wpAny_call (codeAny_mono (F.run A X.stack s H ⟨us, []⟩ (us ++ ds) (vs ++ dvs) Q (WE W σ) hr e0 ((by rw [G.hK]; exact b : Binds X.K fd ps ds) s us I.kIn hl) r2 hq) fun r s' hq => ?_)
  cases r with
  | error e => exact passAt G.tk σ pins H s e s' I hq
  | ok fl =>
    cases fl with
    | ret u => exact I.after hq
    | next => exact False.elim hq
    | brk => exact False.elim hq
    | cont => exact False.elim hq

structure OEq (g : G) (lv : Nat) (c : Nat) (i : MI) : Prop where
  ex : ∃ (k : Nat) (f : Addr) (fd : FuncData) (ps : List Str), k + 1 ≤ lv ∧ PySem.W.findIn g.K (.ref (g.C c)) "__eq__" = some (some (.ref f)) ∧ PySem.W.isFn g.K (.ref f) = true ∧ PySem.W.findIn g.K (.ref (g.C c)) "__ne__" = some (some (.builtin "object.__ne__")) ∧
    PySem.W.mroIn g.K (g.C c) (.type "object") = some true ∧ DOk g k i.np i.cf f fd ps ∧ DV g fd ps i.dv
/-- right operands' types -/
structure NfOk (g : G) (nf : Nat → Ty → Bool) : Prop where
  ok : ∀ c t, nf c t = true → PySem.W.notFirst g.K (g.C c) (t.v g) = true
  ins : ∀ c k, nf c (.c k) = true → InsTy g k
def ownEq (oeq : Nat → Option MI) (nf : Nat → Ty → Bool) (sg : Bool) (c : Nat) (x y : Val) (h : Heap) : Rs Val := match oeq c, tyOf y h with
  | some i, some t => if nf c t ∧ ([x, y] ++ i.dv).length = i.np then (i.cf ([x, y] ++ i.dv) h).bind fun v h1 => (match v with
    | .bl b => .ok (.bl (b != sg)) h1
    | _ => .bad) else .bad
  | _, _ => .bad
def eqOp (oeq : Nat → Option MI) (nf : Nat → Ty → Bool) (sg : Bool) (x y : Val) (h : Heap) : Rs Val := match insOf x h with
  | some (c, _) => ownEq oeq nf sg c x y h
  | none => (match eqV x y h with
    | some b => .ok (.bl (b != sg)) h
    | none => .bad)
theorem looks_ty {X : Cx} {W : WX} {N : List Str} {sc : Scope} (G : Good g X N sc W lv) {pins : List (Addr × Obj)} {s : Shared} {σ : L2.St} {ρ : Nat → Addr} {h : Heap} {H : Hp} (I : Inv X pins σ H s) (r : Rel g ρ h H) {v : Val} {x : L2.V} {u : Value} {t : Ty} (tv : VR g ρ h.length H v x) (rx : RelV x u) (e : tyOf v h = some t) (hi : ∀ c, t = .c c → InsTy g c) (M : Model) :
    PySem.W.Looks M s.heap (typeOf u) (t.v g) := by
  have ty := tyX_ok r tv e hi
  rw [← G.hK] at ty
  obtain ⟨P, Z, p, _⟩ := kit_of I rx ty
  exact Z.ty M s.heap I.kIn p
theorem co_own {oeq : Nat → Option MI} {nf : Nat → Ty → Bool} (T : ∀ c i, oeq c = some i → OEq g lv c i) (Nf : NfOk g nf) (X : Cx) (W : WX) (N : List Str) (sc : Scope) (G : Good g X N sc W lv) (ρ : Nat → Addr) (h : Heap) (H : Hp) (σ : L2.St) (x y : Val) (vx vy : L2.V) (Q : VK) (sg : Bool) (c : Nat) (fl : List (Str × Val)) (r : Rel g ρ h H) (tx : VR g ρ h.length H x vx) (ty : VR g ρ h.length H y vy)
    (hx : insOf x h = some (c, fl)) (q : QR g (VR g) W ρ h H σ (ownEq oeq nf sg c x y h) Q) : ∀ (pins : List (Addr × Obj)) (s : Shared) (v u : Value), Inv X pins σ H s → RelV vx v → RelV vy u → wpAny (model X.prog X.w) X.A (compareOp (if sg then .NotEq else .Eq) v u) (EP X pins σ Q) X.xe s := by
  intro pins s v u I rx ry
  obtain ⟨a, rfl, za⟩ := insOf_ok hx
  obtain ⟨_, rfl⟩ := tx.of_ref
  obtain ⟨dx, xs, e1, e2⟩ := r.ins za
  cases rx
  unfold ownEq at q
  split at q
  · rename_i i t zo zt
    split at q
    · rename_i hc
      obtain ⟨k, f, fd, ps, hk, hfe, hfn, hne, hmro, D, V⟩ := (T c i zo).ex
      obtain ⟨mA, J, _⟩ := ins_get I.hok e1
      obtain ⟨od, J, _⟩ := J.look
      obtain ⟨m, hF⟩ := I.fr
      have L := looks_ty G I r ty ry zt (fun k' e => Nf.ins c k' (by rw [← e]; exact hc.1)) (model X.prog X.w)
      have nfk := Nf.ok c t hc.1
      rw [← G.hK] at nfk hfe hfn hne hmro
      have tv : VRs g ρ h.length H [Val.ref a, y] [L2.V.ref (ρ a), vy] := by
        rw [VRs]; refine ⟨_, _, rfl, tx, ?_⟩; rw [VRs]; exact ⟨_, _, rfl, ty, by rw [VRs]⟩
      have back : ∀ (b : L2.V) (H1 : Hp), (∃ ρ1 h1 a', Stp ρ ρ1 h h1 H H1 ∧ Rel g ρ1 h1 H1 ∧ VR g ρ1 h1.length H1 a' b ∧ i.cf ([Val.ref a, y] ++ i.dv) h = .ok a' h1 ∧ QR g (VR g) W ρ1 h1 H1 σ (match a' with
          | .bl b => .ok (.bl (b != sg)) h1
          | _ => .bad) Q) → ∃ b', b = .bl b' ∧ Q (.bl (b' != sg)) H1 := fun b H1 ⟨ρ1, h1, a', st, r1, t1, _, q1⟩ => by
        cases a' with
        | bl b' => exact ⟨b', t1.of_bl, QR.ok (T := VR g) r1 VR.bl q1⟩
        | _ => exact q1.elim
      have q' := QR.imp (QR.bind (T := VR g) q) fun b H1 z => back b H1 z
      cases sg with
      | false =>
        refine PySem.W.cmp_K (op := .Eq) (by have := G.room.un; omega) hF I.ok.mod.kin J L nfk hfe hfn ?_
        refine wpAny_mono (run_callA G (G.room.mono (by omega)) rfl D V I r tv (.cons rfl (.cons ry .nil)) hc.2 q') (fun v s' hv => ?_) fun _ _ e => e
        obtain ⟨b, H', I', rb, b', rfl, hq⟩ := hv
        cases rb
        exact ⟨.bl b', H', I', rfl, by simpa using hq⟩
      | true =>
        refine ne_K (by have := G.room.un; omega) hF I.ok.mod.kin J L nfk hne hfe hfn hmro ?_
        have hr1 : Room k X.A.in1 := (G.room.mono hk).in1
        refine wpAny_mono (run_callA G (A := X.A.in1) hr1 rfl D V I r tv (.cons rfl (.cons ry .nil)) hc.2 q') (fun v s' hv => ?_) fun _ _ e => e
        obtain ⟨b, H', I', rb, b', rfl, hq⟩ := hv
        cases rb
        exact ⟨b', rfl, ⟨.bl (!b'), H', I', rfl, by simpa using hq⟩⟩
    · exact q.elim
  · exact q.elim
abbrev SOpS (X : Cx) (f : Value → Value → Sem Value) (σ : L2.St) : R2 := fun x y H Q => ∀ (pins : List (Addr × Obj)) (s : Shared) (v u : Value), Inv X pins σ H s → RelV x v → RelV y u → wpAny (model X.prog X.w) X.A (f v u) (EP X pins σ Q) X.xe s
/-- an operation that may call -/
def SoOS (g : G) (lv : Nat) (f : Value → Value → Sem Value) (op : Val → Val → Heap → Rs Val) : Prop :=
  ∀ (X : Cx) (W : WX) (N : List Str) (sc : Scope), Good g X N sc W lv → ∀ (ρ : Nat → Addr) (h : Heap) (H : Hp) (σ : L2.St) (x y : Val) (vx vy : L2.V) (Q : VK), Rel g ρ h H → VR g ρ h.length H x vx → VR g ρ h.length H y vy → QR g (VR g) W ρ h H σ (op x y h) Q → SOpS X f σ vx vy H Q
theorem SoO.p {f : Value → Value → Sem Value} {op : Val → Val → Heap → Rs Val} (h : SoO g lv f op) : SoOS g lv f op := fun X W N sc G ρ h' H σ x y vx vy Q r tx ty q pins s v u I rx ry => h X W N sc G ρ h' H σ x y vx vy Q r tx ty q pins s σ v u I rx ry
theorem co_eq {oeq : Nat → Option MI} {nf : Nat → Ty → Bool} (T : ∀ c i, oeq c = some i → OEq g lv c i) (Nf : NfOk g nf) : SoOS g lv (compareOp .Eq) (eqOp oeq nf false) := by
  intro X W N sc G ρ h H σ x y vx vy Q r tx ty q
  unfold eqOp at q
  split at q
  · rename_i c fl hx
    exact co_own T Nf X W N sc G ρ h H σ x y vx vy Q false c fl r tx ty hx q
  · rename_i hx
    cases z : eqV x y h with
    | none => rw [z] at q; exact q.elim
    | some b =>
      rw [z] at q
      have := QR.ok (T := VR g) r VR.bl q
      exact fun pins s v u I rx ry => (op_eqData (σ0 := σ) G r tx ty z).1 (by simpa using this) pins s σ v u I rx ry
theorem co_ne {oeq : Nat → Option MI} {nf : Nat → Ty → Bool} (T : ∀ c i, oeq c = some i → OEq g lv c i) (Nf : NfOk g nf) : SoOS g lv (compareOp .NotEq) (eqOp oeq nf true) := by
  intro X W N sc G ρ h H σ x y vx vy Q r tx ty q
  unfold eqOp at q
  split at q
  · rename_i c fl hx
    exact co_own T Nf X W N sc G ρ h H σ x y vx vy Q true c fl r tx ty hx q
  · rename_i hx
    cases z : eqV x y h with
    | none => rw [z] at q; exact q.elim
    | some b =>
      rw [z] at q
      have := QR.ok (T := VR g) r VR.bl q
      exact fun pins s v u I rx ry => (op_eqData (σ0 := σ) G r tx ty z).2 (by simpa using this) pins s σ v u I rx ry

/-! ### the text's own operators, both of one class -/
structure OBin (g : G) (lv : Nat) (op : Operator) (c : Nat) (i : MI) : Prop where
  ex : ∃ (k : Nat) (f : Addr) (fd : FuncData) (ps : List Str), k ≤ lv ∧ PySem.W.findIn g.K (.ref (g.C c)) (PySem.dunder op.info.2) = some (some (.ref f)) ∧ PySem.W.isFn g.K (.ref f) = true ∧ PySem.W.selfFirst g.K (g.C c) = true ∧
    InsTy g c ∧ DOk g k i.np i.cf f fd ps ∧ DV g fd ps i.dv
def ownBin (ob : Nat → Option MI) (base : Val → Val → Heap → Rs Val) (x y : Val) (h : Heap) : Rs Val := match insOf x h with
  | some (c, _) => (match insOf y h, ob c with
    | some (c', _), some i => if c' = c ∧ ([x, y] ++ i.dv).length = i.np then i.cf ([x, y] ++ i.dv) h else .bad
    | _, _ => .bad)
  | none => base x y h
theorem insOf_ty {v : Val} {h : Heap} {c : Nat} {fs : List (Str × Val)} (e : insOf v h = some (c, fs)) : tyOf v h = some (.c c) := by
  obtain ⟨a, rfl, z⟩ := insOf_ok e
  unfold tyOf
  simp only [z]
theorem bo_own {op : Operator} {ob : Nat → Option MI} {base : Val → Val → Heap → Rs Val} (T : ∀ c i, ob c = some i → OBin g lv op c i) (B : SoOS g lv (binaryOp op) base) : SoOS g lv (binaryOp op) (ownBin ob base) := by
  intro X W N sc G ρ h H σ x y vx vy Q r tx ty q
  unfold ownBin at q
  split at q
  · rename_i c fl hx
    split at q
    · rename_i c' fl' i hy zo
      split at q
      · rename_i hc
        obtain ⟨rfl, hn⟩ := hc
        intro pins s v u I rx ry
        obtain ⟨k, f, fd, ps, hk, hfe, hfn, hsf, hIT, D, V⟩ := (T c' i zo).ex
        have L := looks_ty G I r ty ry (insOf_ty hy) (fun k' e => by cases e; exact hIT) (model X.prog X.w)
        obtain ⟨a, rfl, za⟩ := insOf_ok hx
        obtain ⟨_, rfl⟩ := tx.of_ref
        obtain ⟨dx, xs, e1, e2⟩ := r.ins za
        cases rx
        obtain ⟨mA, J, _⟩ := ins_get I.hok e1
        obtain ⟨od, J, _⟩ := J.look
        obtain ⟨m, hF⟩ := I.fr
        rw [← G.hK] at hfe hfn hsf
        have tv : VRs g ρ h.length H [Val.ref a, y] [L2.V.ref (ρ a), vy] := by
          rw [VRs]; refine ⟨_, _, rfl, tx, ?_⟩; rw [VRs]; exact ⟨_, _, rfl, ty, by rw [VRs]⟩
        refine PySem.W.binop_K hF I.ok.mod.kin J L hsf hfe hfn ?_
        refine wpAny_mono (run_callA G (G.room.mono hk) rfl D V I r tv (.cons rfl (.cons ry .nil)) hn q) (fun v s' hv => ?_) fun _ _ e => e
        cases v <;> first
          | exact hv
          | (obtain ⟨b, H', I', rb, hq⟩ := hv
             cases b <;> first | exact nomatch rb | (obtain ⟨_, z⟩ := rb; exact nomatch z))
      · exact q.elim
    · exact q.elim
  · exact B X W N sc G ρ h H σ x y vx vy Q r tx ty q

/-! ### expressions -/
variable {N : List Str} {sc : Scope}
theorem sp_bin {op : Operator} {fo : Val → Val → Heap → Rs Val} {fa fb : Fe} {ea eb : Expr} {pos : Pos} (ho : SoOS g lv (binaryOp op) fo) (ha : SoE g lv N sc fa ea) (hb : SoE g lv N sc fb eb) :
    SoE g lv N sc (fun env h => (fa env h).bind fun x h1 => (fb env h1).bind fun y h2 => fo x y h2) (.BinOp ea op eb pos) := by
  intro X W G ρ h H env σ Q r e q pins s I
  refine wpAny_BinOp (binT (self_e X ea) (self_e X eb) (R := fun x y H2 => SOpS X (binaryOp op) σ x y H2 Q) I ?_ fun v u s2 x y H2 I2 rx ry q => q pins s2 v u I2 rx ry)
  refine ha X W G ρ h H env σ _ r e (QR.imp (QR.bind q) fun vx H1 ⟨ρ1, h1, x, s1, r1, t1, _, q1⟩ => ?_)
  refine hb X W G ρ1 h1 H1 env σ _ r1 (e.step r s1) (QR.imp (QR.bind q1) fun vy H2 ⟨ρ2, h2, y, s2, r2, t2, _, q2⟩ => ?_)
  exact ho X W N sc G ρ2 h2 H2 σ x y vx vy Q r2 (t1.step r1 s2) t2 q2
theorem sp_cmp {op : CmpOp} {fo : Val → Val → Heap → Rs Val} {fa fb : Fe} {ea eb : Expr} {pos : Pos} (hm : behindInMarks op eb = false) (ho : SoOS g lv (compareOp op) fo) (ha : SoE g lv N sc fa ea) (hb : SoE g lv N sc fb eb) :
    SoE g lv N sc (fun env h => (fa env h).bind fun x h1 => (fb env h1).bind fun y h2 => fo x y h2) (.Compare ea [op] [eb] pos) := by
  intro X W G ρ h H env σ Q r e q pins s I
  refine wpAny_Compare1 (binT (self_e X ea) (self_e X eb) (R := fun x y H2 => SOpS X (compareOp op) σ x y H2 Q) I ?_ fun v u s2 x y H2 I2 rx ry q => q pins s2 v u I2 rx ry) hm
  refine ha X W G ρ h H env σ _ r e (QR.imp (QR.bind q) fun vx H1 ⟨ρ1, h1, x, s1, r1, t1, _, q1⟩ => ?_)
  refine hb X W G ρ1 h1 H1 env σ _ r1 (e.step r s1) (QR.imp (QR.bind q1) fun vy H2 ⟨ρ2, h2, y, s2, r2, t2, _, q2⟩ => ?_)
  exact ho X W N sc G ρ2 h2 H2 σ x y vx vy Q r2 (t1.step r1 s2) t2 q2
theorem tp_cmp {op : CmpOp} {fo : Val → Val → Heap → Rs Val} {fa fb : Fe} {ea eb : Expr} {pos : Pos} (hm : behindInMarks op eb = false) (ho : SoOS g lv (compareOp op) fo) (ha : SoE g lv N sc fa ea) (hb : SoE g lv N sc fb eb) :
    SoT g lv N sc (fun env h => eBl ((fa env h).bind fun x h1 => (fb env h1).bind fun y h2 => fo x y h2)) (.Compare ea [op] [eb] pos) := by
  intro X W G ρ h H env σ Q r e q pins s I
  refine wpAny_isTrue_Compare1 (binT (self_e X ea) (self_e X eb) (R := fun x y H2 => SOpS X (compareOp op) σ x y H2 fun b H3 => ∃ k, b = .bl k ∧ Q k H3) I ?_ fun v u s2 x y H2 I2 rx ry q => thn (q pins s2 v u I2 rx ry) fun c s3 ⟨z, H3, I3, r3, k, e, q3⟩ => ?_) hm
  · have q' := QR.bind (T := VR g) q
    refine ha X W G ρ h H env σ _ r e (QR.imp (QR.bind q') fun vx H1 ⟨ρ1, h1, x, s1, r1, t1, _, q1⟩ => ?_)
    refine hb X W G ρ1 h1 H1 env σ _ r1 (e.step r s1) (QR.imp (QR.bind q1) fun vy H2 ⟨ρ2, h2, y, s2, r2, t2, _, q2⟩ => ?_)
    refine ho X W N sc G ρ2 h2 H2 σ x y vx vy _ r2 (t1.step r1 s2) t2 (QR.imp q2 fun b H3 ⟨ρ3, h3, v, s3, r3, t3, _, q3⟩ => ?_)
    cases v with
    | bl k => exact ⟨k, t3.of_bl, QR.ok (T := fun _ _ _ a b => a = b) r3 rfl q3⟩
    | _ => exact q3.elim
  · subst e
    cases r3
    exact wpAny_truthy_bool ⟨H3, I3, q3⟩
def eChain (fo fo' : Val → Val → Heap → Rs Val) (fa fb fc : Fe) : Fe := fun env h => (fa env h).bind fun x h1 => (fb env h1).bind fun y h2 => (fo x y h2).bind fun z h3 => match z with
  | .bl true => (fc env h3).bind fun w h4 => fo' y w h4
  | .bl false => .ok (.bl false) h3
  | _ => .bad
theorem chain_go {op op' : CmpOp} {fo fo' : Val → Val → Heap → Rs Val} {fa fb fc : Fe} {ea eb ec : Expr} (ho : SoO g lv (compareOp op) fo) (ho' : SoO g lv (compareOp op') fo') (ha : SoE g lv N sc fa ea) (hb : SoE g lv N sc fb eb) (hc : SoE g lv N sc fc ec)
    (X : Cx) (W : WX) (G : Good g X N sc W lv) (ρ : Nat → Addr) (h : Heap) (H : Hp) (env : Env) (σ : L2.St) (Q : VK) (r : Rel g ρ h H) (e : ER g ρ h.length H env σ) (q : QR g (VR g) W ρ h H σ (eChain fo fo' fa fb fc env h) Q) :
    tChain (SOp X (compareOp op)) (SOp X (compareOp op')) (SE X ea) (SE X eb) (SE X ec) σ H Q := by
  refine ha X W G ρ h H env σ _ r e (QR.imp (QR.bind q) fun vx H1 ⟨ρ1, h1, x, s1, r1, t1, _, q1⟩ => ?_)
  refine hb X W G ρ1 h1 H1 env σ _ r1 (e.step r s1) (QR.imp (QR.bind q1) fun vy H2 ⟨ρ2, h2, y, s2, r2, t2, _, q2⟩ => ?_)
  refine ho X W N sc G ρ2 h2 H2 σ x y vx vy _ r2 (t1.step r1 s2) t2 (QR.imp (QR.bind q2) fun b H3 ⟨ρ3, h3, z, s3, r3, t3, _, q3⟩ => ?_)
  cases z with
  | bl k =>
    refine ⟨k, t3.of_bl, ?_⟩
    cases k with
    | true =>
      rw [if_pos rfl]
      refine hc X W G ρ3 h3 H3 env σ _ r3 (((e.step r s1).step r1 s2).step r2 s3) (QR.imp (QR.bind q3) fun vw H4 ⟨ρ4, h4, w, s4, r4, t4, _, q4⟩ => ?_)
      exact ho' X W N sc G ρ4 h4 H4 σ y w vy vw Q r4 ((t2.step r2 s3).step r3 s4) t4 q4
    | false =>
      rw [if_neg Bool.false_ne_true]
      exact QR.ok (T := VR g) r3 VR.bl q3
  | _ => exact q3.elim
theorem so_chain {op op' : CmpOp} {fo fo' : Val → Val → Heap → Rs Val} {fa fb fc : Fe} {ea eb ec : Expr} {pos : Pos} (hm : lastMarks [op, op'] [eb, ec] = false) (ho : SoO g lv (compareOp op) fo) (ho' : SoO g lv (compareOp op') fo') (ha : SoE g lv N sc fa ea) (hb : SoE g lv N sc fb eb) (hc : SoE g lv N sc fc ec) :
    SoE g lv N sc (eChain fo fo' fa fb fc) (.Compare ea [op, op'] [eb, ec] pos) := by
  intro X W G ρ h H env σ Q r e q
  exact (pe_chain (self_op X _) (self_op X _) (self_e X ea) (self_e X eb) (self_e X ec) hm).se (chain_go ho ho' ha hb hc X W G ρ h H env σ Q r e q)
theorem st_chain {op op' : CmpOp} {fo fo' : Val → Val → Heap → Rs Val} {fa fb fc : Fe} {ea eb ec : Expr} {pos : Pos} (hm : lastMarks [op, op'] [eb, ec] = false) (ho : SoO g lv (compareOp op) fo) (ho' : SoO g lv (compareOp op') fo') (ha : SoE g lv N sc fa ea) (hb : SoE g lv N sc fb eb) (hc : SoE g lv N sc fc ec) :
    SoT g lv N sc (fun env h => eBl (eChain fo fo' fa fb fc env h)) (.Compare ea [op, op'] [eb, ec] pos) := by
  intro X W G ρ h H env σ Q r e q
  refine (pt_chain (self_op X _) (self_op X _) (self_e X ea) (self_e X eb) (self_e X ec) hm).se (chain_go ho ho' ha hb hc X W G ρ h H env σ _ r e (QR.imp (QR.bind (T := VR g) q) fun b H3 ⟨ρ3, h3, v, s3, r3, t3, _, q3⟩ => ?_))
  cases v with
  | bl k => exact ⟨k, t3.of_bl, QR.ok (T := fun _ _ _ a b => a = b) r3 rfl q3⟩
  | _ => exact q3.elim
def negV (v : Val) (h : Heap) : Rs Val := match v with
  | .int i => .ok (.int (-i)) h
  | _ => .bad
abbrev SUn (X : Cx) (f : Value → Sem Value) : L2.V → Hp → VK → Prop := fun x H Q => ∀ (pins : List (Addr × Obj)) (s : Shared) (σ : L2.St) (v : Value), Inv X pins σ H s → RelV x v → wpAny (model X.prog X.w) X.A (f v) (EP X pins σ Q) X.xe s
theorem so_neg {fa : Fe} {ea : Expr} {pos : Pos} (ha : SoE g lv N sc fa ea) : SoE g lv N sc (fun env h => (fa env h).bind negV) (.UnaryOp .USub ea pos) := by
  intro X W G ρ h H env σ Q r e q
  refine (pe_un un_neg (self_e X ea)).se ?_
  refine ha X W G ρ h H env σ _ r e (QR.imp (QR.bind q) fun vx H1 ⟨ρ1, h1, x, s1, r1, t1, _, q1⟩ => ?_)
  cases x with
  | int i => exact ⟨i, t1.of_int, QR.ok (T := VR g) r1 VR.int q1⟩
  | _ => exact q1.elim
end
end MP
end

section
/-! MP, part U: list(d.values()), {}, names of classes and types, constants of the module. -/
set_option autoImplicit false
set_option linter.all false
namespace MP
open PySem L2 PySem.Spec PyProof.Rows
section
variable {g : G} {lv : Nat} {N : List Str} {sc : Scope}
theorem vals_of_items {kvs : List (Key × L2.V)} {vs : List (Key × Value)} (kv : KV kvs vs) : Vals (kvs.map (·.2)) (vs.map (·.2)) := by
  unfold KV at kv
  induction kv with
  | nil => exact .nil
  | cons h t ih => exact .cons h.2 ih
def tListVals (te : TE) : TE := fun σ H Q => te σ H fun x H1 => ∃ (d : Addr) (kvs : List (Key × L2.V)), x = .ref d ∧ Rd H1 d (.dK kvs) ∧ ∀ p, H1 p = none → Q (.ref p) (upd H1 p (.lst (kvs.map (·.2))))
theorem pe_listVals {X : Cx} {e : Expr} {te : TE} {p apos cpos pos : Pos} (hc : X.calm = true) (he : PE X e te) (hg : Gl X "list") (hm : X.mg "list" = none) (hv : bootBuiltins "list" = some (.type "list")) (hbase : attributeBase e "values" X.env (PySem.eval e X.env) = PySem.eval e X.env) (hline : (apos.endLine == cpos.line) = true) :
    PE X (.Call (.Name "list" p) [.Call (.Attribute e "values" apos) [] [] cpos] [] pos) (tListVals te) := by
  refine ⟨fun pins s σ H Q I hq => ?_⟩
  have hs : starEach [.Call (.Attribute e "values" apos) [] [] cpos] X.env = (false, PySem.eval (.Call (.Attribute e "values" apos) [] [] cpos) X.env) :: starEach [] X.env := rfl
  refine wpAny_Call_Name_kw (ld_blt I hg hm hv ?_)
  refine PyProof.Rows.callWith_type1 ?_ hs rfl
  rw [hs]
  show wpAny _ _ (spliced ((false, PySem.eval (.Call (.Attribute e "values" apos) [] [] cpos) X.env) :: backTo pos (starEach [] X.env))) _ _ s
  refine Calls.spliced_cons ?_
  refine wpAny_Call_method (T := "dict") (id := "dict.values") hbase rfl hline F.plainAttrs_dict F.slot_dict_values F.type_dict_values (thn (he.run pins s σ H _ I hq) fun u s1 ⟨x, H1, I1, rx, d, kvs, ex, hd, q⟩ => ?_)
  subst ex
  obtain rfl : u = Value.ref d := rx
  obtain ⟨hz, hs0, vs, kv, hdo⟩ := dk_rd I1.hok hd
  obtain ⟨ep, hat⟩ := hdo.dictAt
  have lk : kvs.length = vs.length := Paired.length kv
  have I2 : Inv X pins σ H1 { s1 with heap := s1.heap.push { cls := .type "dict_values", data := .fields #[.ref d] } } := I1.kept (t' := s1.toks) fun b ob q => Heap.get?_push_of_some _ q
  refine ⟨hdo.typeIs, hdo.mapOf.noDict, ?_⟩
  show wpAny _ _ (callWith cpos (.builtin "dict.values") [.ref d] [] []) _ X.xe s1
  refine method_meetsIn F.slot_dict_values F.entry_dict_values rfl (PySem.evalArgs_none ⟨rfl, hdo.typeIs, F.args_dict_values_1 _, _, meets_dict_values (mixKind X.prog X.w) d hs0, ⟨vs, hdo⟩, ?_⟩)
  refine Calls.spliced_nil ?_
  refine PySem.W.kdl_call (PySem.W.kdl_values (knd := mixKind X.prog X.w) (kvs := vs) (ep := ep)) (I1.ok.hd hc) ⟨⟨_, Heap.get?_push_size _ rfl, rfl, rfl⟩, hat.push _⟩ (by omega) fun h' tk acc c hk hS hacc => ?_
  have hl : acc.toList = vs.map (·.2) := by
    apply List.ext_getElem?
    intro i
    rw [List.getElem?_map, Array.getElem?_toList]
    cases z : acc[i]? with
    | some v =>
      obtain ⟨k, hk'⟩ := hacc.2 i v z
      rw [hk']; rfl
    | none =>
      have : acc.size ≤ i := by simpa using z
      rw [hacc.1] at this
      rw [List.getElem?_eq_none this]; rfl
  have hz' : (kvs.map (·.2)).length ≤ sizeLine := by rw [List.length_map]; exact hz
  refine ⟨.ref _, upd H1 _ (.lst (kvs.map (·.2))), I2.laid (t' := tk) hk (Nat.le_refl _) ⟨hz', vs.map (·.2), c, vals_of_items kv, ?_⟩, rfl, q _ (I2.hok.fresh (Nat.le_refl _))⟩
  rw [← hl, Array.toArray_toList]
  exact hS
theorem KR.vals {ρ : Nat → Addr} {n : Nat} {H : Hp} {κ : Type} : ∀ {vs : List (κ × Val)} {xs : List (κ × L2.V)}, KR g ρ n H vs xs → VRs g ρ n H (vs.map (·.2)) (xs.map (·.2))
  | [], xs, t => by rw [KR] at t; subst t; show VRs g ρ n H [] []; rw [VRs]
  | (k, v) :: vs, xs, t => by
    rw [KR] at t
    obtain ⟨x, r, rfl, t1, t2⟩ := t
    rw [List.map_cons, List.map_cons, VRs]
    exact ⟨_, _, rfl, t1, KR.vals t2⟩
def listValsV (v : Val) (h : Heap) : Rs Val := match dctOf v h with
  | some kvs => al h (.lst (kvs.map (·.2)))
  | none => .bad
theorem so_listVals {f : Fe} {e : Expr} {p apos cpos pos : Pos} (hx : sc.names.lookup ("list" : Str) = some .globalImplicit) (hm : g.mg "list" = none) (hb : noSuper e = true) (hl : (apos.endLine == cpos.line) = true) (he : SoE g lv N sc f e) :
    SoE g lv N sc (fun env h => (f env h).bind listValsV) (.Call (.Name "list" p) [.Call (.Attribute e "values" apos) [] [] cpos] [] pos) := by
  intro X W G ρ h H env σ Q r er q
  refine (pe_listVals G.calm (self_e X e) (G.gl hx) (by rw [G.hmg]; exact hm) rfl (base_plain hb _ X.env _) hl).se ?_
  refine he X W G ρ h H env σ _ r er (QR.imp (QR.bind q) fun x H1 ⟨ρ1, h1, v, s1, r1, t1, _, q1⟩ => ?_)
  unfold listValsV at q1
  split at q1
  · rename_i kvs z
    obtain ⟨a, rfl, za⟩ := dctOf_ok z
    obtain ⟨_, rfl⟩ := t1.of_ref
    obtain ⟨xs, e1, e2, hz⟩ := r1.dct za
    exact ⟨_, xs, rfl, e1, fun p hp => new_lst r1 (by rw [List.length_map]; exact hz.1) e2.vals q1 p hp⟩
  · exact q1.elim
theorem so_dnew {pos : Pos} : SoE g lv N sc (fun _ h => al h (.dct [])) (.Dict [] [] pos) := by
  intro X W G ρ h H env σ Q r er q
  exact pe_dnewK.se fun p hp => new_dct r ⟨Nat.zero_le _, fun p hp => absurd hp List.not_mem_nil⟩ (by rw [KR]) q p hp

/-! ### names -/
theorem so_cls {c : Nat} {x : Str} {pos : Pos} (hx : sc.names.lookup x = some .globalImplicit) (hm : g.mg x = some (.ref (g.C c))) (hdb : (x == ("__debug__" : Str)) = false) : SoE g lv N sc (fun _ h => .ok (.cls c) h) (.Name x pos) := by
  intro X W G ρ h H env σ Q r er q
  exact (pe_glob (v := .ref (g.C c)) (G.gl hx) (by rw [G.hmg]; exact hm) rfl hdb).se (QR.ok (T := VR g) r (by rw [VR]) q)
theorem so_ty {t : String} {x : Str} {pos : Pos} (hx : sc.names.lookup x = some .globalImplicit) (hm : g.mg x = none) (hv : bootBuiltins x = some (.type t)) (hn : x ≠ "__name__") (hdb : (x == ("__debug__" : Str)) = false) : SoE g lv N sc (fun _ h => .ok (.ty t) h) (.Name x pos) := by
  intro X W G ρ h H env σ Q r er q
  exact (pe_bltn (v := .ty t) (G.gl hx) (by rw [G.hmg]; exact hm) hv rfl hn hdb).se (QR.ok (T := VR g) r (by rw [VR]) q)
/-- a constant of the module -/
structure GCon (g : G) (x : Str) (v : Val) : Prop where
  ex : ∃ (u : Value) (y : L2.V), g.mg x = some u ∧ RelV y u ∧ ∀ (ρ : Nat → Addr) (n : Nat) (H : Hp), VR g ρ n H v y
theorem so_gcon {x : Str} {v : Val} {pos : Pos} (hx : sc.names.lookup x = some .globalImplicit) (C : GCon g x v) (hdb : (x == ("__debug__" : Str)) = false) : SoE g lv N sc (fun _ h => .ok v h) (.Name x pos) := by
  intro X W G ρ h H env σ Q r er q
  obtain ⟨u, y, hm, ry, tv⟩ := C.ex
  exact (pe_glob (v := y) (G.gl hx) (by rw [G.hmg]; exact hm) ry hdb).se (QR.ok (T := VR g) r (tv _ _ _) q)
theorem so_bad {e : Expr} : SoE g lv N sc (fun _ _ => .bad) e := fun X W G ρ h H env σ Q r er q => q.elim
theorem s_bad {e : Stmt} : SoS g lv N sc (fun _ _ => .bad) e := fun X W G ρ h H env σ Q r er q => q.elim
end
end MP
end

section
/-! MP, part V: the evaluator over the syntax. -/
set_option autoImplicit false
set_option linter.all false
namespace MP
open PySem L2

inductive GN where
  | fn (i : Nat) | cls (c : Nat) | con (v : Val) | blt
def isBlt : Option GN → Bool
  | some .blt => true
  | _ => false
structure FI where
  np : Nat
  dv : List Val
def FI.fill (f : FI) (m : Nat) : List Val := f.dv.drop (f.dv.length - (f.np - m))
structure Tb where
  gn : Str → Option GN
  fi : Nat → Option FI
  ini : Nat → Option Nat
  cm : Nat → Str → Option Nat
  oe : Nat → Option Nat
  ob : Operator → Nat → Option Nat
  na : Nat → Str → Bool
  tt : Ty → Ty → Option Bool
  nf : Nat → Ty → Bool
abbrev Cf := Nat → List Val → Heap → Rs Val
abbrev Ft := Env → Heap → Rs Bool
abbrev Fa := Env → Heap → Rs (List Val)

def idx : List Str → Str → Option Nat
  | [], _ => none
  | y :: r, x => if y = x then some 0 else (idx r x).map (· + 1)

/-! ### the combinators by names -/
def xBad : Fe := fun _ _ => .bad
def xVar (i : Nat) : Fe := fun env h => opt (env[i]?.join) h
def xLit (v : Val) : Fe := fun _ h => .ok v h
def xBin (fo : Val → Val → Heap → Rs Val) (fa fb : Fe) : Fe := fun env h => (fa env h).bind fun x h1 => (fb env h1).bind fun y h2 => fo x y h2
def tCmp (fo : Val → Val → Heap → Rs Val) (fa fb : Fe) : Ft := fun env h => eBl ((fa env h).bind fun x h1 => (fb env h1).bind fun y h2 => fo x y h2)
def tChn (fo fo' : Val → Val → Heap → Rs Val) (fa fb fc : Fe) : Ft := fun env h => eBl (eChain fo fo' fa fb fc env h)
def tBad : Ft := fun _ _ => .bad
def xNew (b : B) : Fe := fun _ h => al h b
def xThen (f : Fe) (k : Val → Heap → Rs Val) : Fe := fun env h => (f env h).bind k
def xBf (fs : Fa) (fo : List Val → Heap → Rs Val) : Fe := fun env h => (fs env h).bind fo
def aNil : Fa := fun _ h => .ok [] h
def aBad : Fa := fun _ _ => .bad
def iVal (f : Fe) : Fi := fun env h => (f env h).bind srcV
def iItems (f : Fe) : Fi := fun env h => (f env h).bind srcI
def iVals (f : Fe) : Fi := fun env h => (f env h).bind srcW
def iRng1 (fs : Fa) : Fi := fun env h => (fs env h).bind fun vs h1 => match vs with
  | [.int j] => if -(2 ^ 62) ≤ j ∧ j < 2 ^ 62 then .ok ⟨rngV 0 j.toNat, none⟩ h1 else .bad
  | _ => .bad
def iRng2 (fs : Fa) : Fi := fun env h => (fs env h).bind fun vs h1 => match vs with
  | [.int i, .int j] => if -(2 ^ 62) ≤ i ∧ i < 2 ^ 62 ∧ -(2 ^ 62) ≤ j ∧ j < 2 ^ 62 then .ok ⟨rngV i (j - i).toNat, none⟩ h1 else .bad
  | _ => .bad
def gNm (i : Nat) : Fg := fun v env h => .ok (env.set i (some v)) h
def gsNil : Fgs := fun vs env h => match vs with
  | [] => .ok env h
  | _ => .bad
def gsCons (f : Fg) (fs : Fgs) : Fgs := fun vs env h => match vs with
  | v :: r => (f v env h).bind fun env1 h1 => fs r env1 h1
  | [] => .bad
def gTp (n : Nat) (fs : Fgs) : Fg := fun v env h => match v with
  | .tup vs => if vs.length = n then fs vs env h else .bad
  | _ => .bad
def pNone : Env → Heap → Rs (Option Int) := fun _ h => .ok none h
def tTrue : Ft := fun _ h => .ok true h
def sBad : Fs := fun _ _ => .bad
def sNx : Fs := fun env h => .nx env h
def sSeq (f1 f2 : Fs) : Fs := fun env h => (f1 env h).andThen f2
def sBk : Fs := fun env h => .bk env h
def sCt : Fs := fun env h => .ct env h
def sExpr (f : Fe) : Fs := fun env h => liftS (f env h) env fun _ h1 => .nx env h1
def sRet (f : Fe) : Fs := fun env h => liftS (f env h) env fun v h1 => .rt v h1
def sRetN : Fs := fun env h => .rt .non h
def sIf (fc : Ft) (fa fb : Fs) : Fs := fun env h => liftS (fc env h) env fun k h1 => if k then fa env h1 else fb env h1
def sPar2 (i j : Nat) (fs : Fa) : Fs := fun env h => liftS (fs env h) env fun vs h1 => match vs with
  | [v, w] => .nx ((env.set i (some v)).set j (some w)) h1
  | _ => .bad
def sPar3 (i j l : Nat) (fs : Fa) : Fs := fun env h => liftS (fs env h) env fun vs h1 => match vs with
  | [v, w, u] => .nx (((env.set i (some v)).set j (some w)).set l (some u)) h1
  | _ => .bad
def sSetE (i : Nat) (f : Fe) : Fs := fun env h => liftS (f env h) env fun v h1 => .nx (env.set i (some v)) h1

structure Ev where
  E : Scope → Expr → Fe
  T : Scope → Expr → Ft
  Ss : Scope → List Stmt → Fs

section
variable (tb : Tb) (cf : Cf) (N : List Str) (wf : Nat) (r : Ev)

def tyName (x : Str) : Option String :=
  if x = "int" then some "int" else if x = "str" then some "str" else if x = "list" then some "list" else if x = "tuple" then some "tuple" else if x = "dict" then some "dict" else if x = "bool" then some "bool" else none
def vSlot (x : Str) : Fe := match idx N x with
  | some i => xVar i
  | none => xBad
def vName (sc : Scope) (x : Str) : Fe :=
  if (x == ("__debug__" : Str)) = true ∨ (x == ("__classdict__" : Str)) = true then xBad else match sc.names.lookup x with
    | some .globalImplicit => (match tb.gn x with
      | some (.cls c) => xLit (.cls c)
      | some (.con v) => xLit v
      | some .blt => (match tyName x with
        | some t => xLit (.ty t)
        | none => xBad)
      | _ => xBad)
    | some .local => vSlot N x
    | some .cell => vSlot N x
    | some .free => vSlot N x
    | _ => xBad
def vConst : Const → Fe
  | .int i => xLit (.int i)
  | .bool b => xLit (.bl b)
  | .none => xLit .non
  | .str x => if x.length ≤ lim then xLit (.str x) else xBad
  | _ => xBad
def evAs (f : Expr → Fe) : List Expr → Fa
  | [] => aNil
  | e :: es => if isSt e then aBad else eCons (f e) (evAs f es)
def obF (op : Operator) (c : Nat) : Option MI := (tb.ob op c).bind fun i => (tb.fi i).map fun f => ⟨f.np, cf i, f.fill 2⟩
def oeF (c : Nat) : Option MI := (tb.oe c).bind fun i => (tb.fi i).map fun f => ⟨f.np, cf i, f.fill 2⟩
def cmF (m : Str) (n : Nat) (c : Nat) : Option MI := (tb.cm c m).bind fun i => (tb.fi i).map fun f => ⟨f.np, cf i, f.fill (n + 1)⟩
def binF (op : Operator) : Option (Val → Val → Heap → Rs Val) := match op with
  | .Add => some (ownBin (obF tb cf .Add) (bop .add))
  | .Sub => some (ownBin (obF tb cf .Sub) (bop .sub))
  | .Mult => some (ownBin (obF tb cf .Mult) (bop .mul))
  | .FloorDiv => some (bop .fdiv)
  | .Mod => some (bop .mod)
  | .Pow => some (bop .pow)
  | _ => none
/-- comparisons that never call -/
def cmp0 (op : CmpOp) : Option (Val → Val → Heap → Rs Val) := match op with
  | .Lt => some (cop .lt)
  | .LtE => some (cop .le)
  | .Gt => some (cop .gt)
  | .GtE => some (cop .ge)
  | .Is => some (cop .is)
  | .IsNot => some (cop .isn)
  | .In => some (cop .in_)
  | .NotIn => some (cop .nin)
  | _ => none
def cmpF (op : CmpOp) : Val → Val → Heap → Rs Val := match op with
  | .Eq => eqOp (oeF tb cf) tb.nf false
  | .NotEq => eqOp (oeF tb cf) tb.nf true
  | .Lt => cop .lt
  | .LtE => cop .le
  | .Gt => cop .gt
  | .GtE => cop .ge
  | .Is => cop .is
  | .IsNot => cop .isn
  | .In => cop .in_
  | .NotIn => cop .nin
def andE (f : Expr → Fe) : List Expr → Fe
  | [] => xBad
  | [e] => f e
  | e :: es => eAnd (f e) (andE f es)
def orE (f : Expr → Fe) : List Expr → Fe
  | [] => xBad
  | [e] => f e
  | e :: es => eOr (f e) (orE f es)
def andT (f : Expr → Ft) : List Expr → Ft
  | [] => tBad
  | [e] => f e
  | e :: es => tAndF (f e) (andT f es)
def orT (f : Expr → Ft) : List Expr → Ft
  | [] => tBad
  | [e] => f e
  | e :: es => tOrF (f e) (orT f es)
def bfOf (x : Str) : Option (List Val → Heap → Rs Val) :=
  if x = "len" then some (f1 lenV) else if x = "int" then some (f1 intV) else if x = "list" then some (f1 listV) else if x = "tuple" then some (f1 tupleV) else if x = "dict" then some (f1 dictV) else
  if x = "sorted" then some (f1 sortedV) else if x = "sum" then some (f1 sumV) else if x = "all" then some (f1 allV) else if x = "any" then some (f1 anyV) else if x = "isinstance" then some (isiV tb.tt) else none
def bmOf (m : Str) : Option (BK → Option Fm) :=
  if m = "append" then some (fun k => match k with | .l => some mAppend | _ => none) else
  if m = "clear" then some (fun k => match k with | .l => some mClearL | .d => some mClearD | _ => none) else
  if m = "extend" then some (fun k => match k with | .l => some mExtend | _ => none) else
  if m = "pop" then some (fun k => match k with | .l => some mPop | _ => none) else
  if m = "get" then some (fun k => match k with | .d => some mGet | _ => none) else
  if m = "join" then some (fun k => match k with | .s => some mJoin | _ => none) else
  if m = "split" then some (fun k => match k with | .s => some mSplit | _ => none) else
  if m = "partition" then some (fun k => match k with | .s => some mPartition | _ => none) else none
/-- e.values() -/
def valuesOf : List Expr → Option (Expr × Bool)
  | [.Call (.Attribute e m apos) [] [] cpos] => if m = "values" then some (e, noSuper e && (apos.endLine == cpos.line)) else none
  | _ => none
def vCall (sc : Scope) (x : Str) (args : List Expr) : Fe :=
  if sc.names.lookup x = some .globalImplicit ∧ (x == ("__debug__" : Str)) = false ∧ args.all (fun e => !isSt e) = true then match tb.gn x with
    | some (.fn i) => (match tb.fi i with
      | some f => eCall f.np (cf i) (f.fill args.length) (evAs (r.E sc) args)
      | none => xBad)
    | some (.cls c) => (match args, tb.ini c with
      | _ :: _, some i => (match tb.fi i with
        | some f => eMake c f.np (cf i) (f.fill (args.length + 1)) (evAs (r.E sc) args)
        | none => xBad)
      | _, _ => xBad)
    | some .blt => (match args with
      | [] => xBad
      | _ :: _ => if x = "list" then (match valuesOf args with
          | some (e, true) => xThen (r.E sc e) listValsV
          | some (_, false) => xBad
          | none => xBf (evAs (r.E sc) args) (f1 listV)) else (match bfOf tb x with
          | some f => xBf (evAs (r.E sc) args) f
          | none => xBad))
    | _ => xBad
  else xBad
def vMeth (sc : Scope) (o : Expr) (m : Str) (apos : Pos) (args : List Expr) (pos : Pos) : Fe :=
  if noSuper o = true ∧ (apos.endLine == pos.line) = true ∧ args.all (fun e => !isSt e) = true ∧ args.length < 29 then match bmOf m with
    | some tab => eBm tab (r.E sc o) (evAs (r.E sc) args)
    | none => eMeth (cmF tb cf m args.length) m (r.E sc o) (evAs (r.E sc) args)
  else xBad
mutual
def gOf (sc : Scope) : Nat → Expr → Option (Fg × List Nat)
  | _, .Name x _ => if sc.names.lookup x = some .local ∨ sc.names.lookup x = some .cell then (idx N x).map fun i => (gNm i, [i]) else none
  | n + 1, .Tuple es _ _ => if es.all (fun e => !isSt e) = true then (gsOf sc n es).map fun p => (gTp es.length p.1, p.2) else none
  | _, _ => none
def gsOf (sc : Scope) : Nat → List Expr → Option (Fgs × List Nat)
  | _, [] => some (gsNil, [])
  | 0, _ => none
  | n + 1, e :: es => (match gOf sc n e, gsOf sc n es with
    | some (f, sl), some (fs, sl') => if isSt e then none else some (gsCons f fs, sl ++ sl')
    | _, _ => none)
end
def iOf (sc : Scope) (tg it : Expr) : Fi := match it with
  | .Call (.Attribute e m apos) [] [] cpos => if noSuper e = true ∧ (apos.endLine == cpos.line) = true ∧ m = "items" then (match tg with
      | .Tuple _ _ _ => iItems (r.E sc e)
      | _ => iVal (r.E sc it))
    else if noSuper e = true ∧ (apos.endLine == cpos.line) = true ∧ m = "values" then iVals (r.E sc e) else iVal (r.E sc it)
  | .Call (.Name x p) [a] [] pos => if x = "range" ∧ sc.names.lookup x = some .globalImplicit ∧ isBlt (tb.gn x) = true ∧ isSt a = false then iRng1 (evAs (r.E sc) [a]) else iVal (r.E sc it)
  | .Call (.Name x p) [a, b] [] pos => if x = "range" ∧ sc.names.lookup x = some .globalImplicit ∧ isBlt (tb.gn x) = true ∧ isSt a = false ∧ isSt b = false then iRng2 (evAs (r.E sc) [a, b]) else iVal (r.E sc it)
  | _ => iVal (r.E sc it)
def pOf (sc : Scope) : Option Expr → Env → Heap → Rs (Option Int)
  | none => pNone
  | some e => ePart (r.E sc e)
def ifsOf (sc : Scope) : List Expr → Option Ft
  | [] => some tTrue
  | [c] => some (r.T sc c)
  | _ => none
/-- the names of a comprehension's own -/
def ownOf (scope : Scope) : List (Str × Nat) := scope.names.filterMap fun y => match y.2 with
  | .local => (idx N y.1).map fun i => (y.1, i)
  | .cell => (idx N y.1).map fun i => (y.1, i)
  | _ => none
structure Cp where
  fi : Fi
  ft : Fg
  fc : Ft
  own : List Nat
def cpOf (sc : Scope) (gens : List Comprehension) (scope : Scope) : Option Cp := match gens with
  | [⟨tg, it, ifs, a⟩] => if a = 0 ∧ isSet it = false ∧ blkC N sc scope (ownOf N scope) = true then (match gOf N scope 8 tg, ifsOf r scope ifs with
      | some (ft, sl), some fc => if sl.all (fun i => decide (i ∈ (ownOf N scope).map (·.2))) = true then some ⟨iOf tb r sc tg it, ft, fc, (ownOf N scope).map (·.2)⟩ else none
      | _, _ => none) else none
  | _ => none
def isRev : Option Expr → Option Expr → Option Expr → Bool
  | none, none, some (.UnaryOp .USub (.Constant (.int i) _ _) _) => decide (i = 1)
  | _, _, _ => false
def stepE (sc : Scope) (e : Expr) : Fe := match e with
  | .Name x _ => vName tb N sc x
  | .Constant c _ _ => vConst c
  | .BinOp a op b _ => (match binF tb cf op with
    | some fo => xBin fo (r.E sc a) (r.E sc b)
    | none => xBad)
  | .UnaryOp op a _ => (match op with
    | .Not => eNot (r.E sc a)
    | .USub => xThen (r.E sc a) negV
    | _ => xBad)
  | .BoolOp op es _ => (match op with
    | .And => andE (r.E sc) es
    | .Or => orE (r.E sc) es)
  | .Compare a ops bs _ => (match ops, bs with
    | [op], [b] => if behindInMarks op b = false then xBin (cmpF tb cf op) (r.E sc a) (r.E sc b) else xBad
    | [op, op'], [b, c] => (match cmp0 op, cmp0 op' with
      | some fo, some fo' => if lastMarks [op, op'] [b, c] = false then eChain fo fo' (r.E sc a) (r.E sc b) (r.E sc c) else xBad
      | _, _ => xBad)
    | _, _ => xBad)
  | .IfExp c a b _ => eIf (r.T sc c) (r.E sc a) (r.E sc b)
  | .Tuple es _ _ => (match es with
    | [] => xLit (.tup [])
    | _ :: _ => eTup (evAs (r.E sc) es))
  | .List es _ => eLst (evAs (r.E sc) es)
  | .Dict ks vs _ => (match ks, vs with
    | [], [] => xNew (.dct [])
    | _, _ => xBad)
  | .Call f args kws pos => (match f, kws with
    | .Name x _, [] => vCall tb cf r sc x args
    | .Attribute o m apos, [] => vMeth tb cf r sc o m apos args pos
    | _, _ => xBad)
  | .Attribute o f _ => if noSuper o = true then eFld (fun c => tb.na c f) f (r.E sc o) else xBad
  | .Subscript a i _ => (match i with
    | .Slice lo hi st _ => (match st with
      | none => eSl (r.E sc a) (pOf r sc lo) (pOf r sc hi)
      | some _ => if isRev lo hi st then eRev (r.E sc a) else xBad)
    | _ => xBin ixV (r.E sc a) (r.E sc i))
  | .ListComp elt gens scope _ => (match cpOf tb N r sc gens scope with
    | some c => eLc c.fi c.ft c.fc (r.E scope elt) c.own
    | none => xBad)
  | .DictComp k v gens scope _ => (match cpOf tb N r sc gens scope with
    | some c => eDc c.fi c.ft c.fc (r.E scope k) (r.E scope v) c.own
    | none => xBad)
  | _ => xBad
def stepT (sc : Scope) (e : Expr) : Ft := match e with
  | .UnaryOp op a _ => (match op with
    | .Not => tNotF (r.T sc a)
    | _ => eTru (r.E sc e))
  | .BoolOp op es _ => (match op with
    | .And => andT (r.T sc) es
    | .Or => orT (r.T sc) es)
  | .Compare a ops bs _ => (match ops, bs with
    | [op], [b] => if behindInMarks op b = false then tCmp (cmpF tb cf op) (r.E sc a) (r.E sc b) else tBad
    | [op, op'], [b, c] => (match cmp0 op, cmp0 op' with
      | some fo, some fo' => if lastMarks [op, op'] [b, c] = false then tChn fo fo' (r.E sc a) (r.E sc b) (r.E sc c) else tBad
      | _, _ => tBad)
    | _, _ => tBad)
  | .IfExp _ _ _ _ => tBad
  | _ => eTru (r.E sc e)
def foldAll (vs : List Expr) : Bool := vs.all (foldedForSure 8)
def par2 (sc : Scope) (ts vs : List Expr) : Option (Nat × Nat) := match ts, vs with
  | [.Name x px, .Name y py], [a, b] => if sc.names.lookup x = some .local ∧ sc.names.lookup y = some .local ∧ x ≠ y ∧ (px.line == py.line) = true ∧ foldAll [a, b] = false ∧ [a, b].all (constantsAlone 8) = false ∧ isSt a = false ∧ isSt b = false then (match idx N x, idx N y with
      | some i, some j => some (i, j)
      | _, _ => none) else none
  | _, _ => none
def par3 (sc : Scope) (ts vs : List Expr) : Option (Nat × Nat × Nat) := match ts, vs with
  | [.Name x px, .Name y py, .Name z pz], [a, b, c] => if sc.names.lookup x = some .local ∧ sc.names.lookup y = some .local ∧ sc.names.lookup z = some .local ∧ x ≠ y ∧ x ≠ z ∧ y ≠ z ∧ (px.line == py.line) = true ∧ (px.line == pz.line) = true ∧ foldAll [a, b, c] = false ∧ [a, b, c].all (constantsAlone 8) = false ∧ isSt a = false ∧ isSt b = false ∧ isSt c = false then
      (match idx N x, idx N y, idx N z with
      | some i, some j, some k => some (i, j, k)
      | _, _, _ => none) else none
  | _, _ => none
/-- one of the names is a cell -/
def cellIn (sc : Scope) (ts : List Expr) : Bool := ts.any fun t => match t with
  | .Name x _ => decide (sc.names.lookup x = some .cell)
  | _ => false
/-- a tuple of values is stored as it comes -/
def noSwap (t e : Expr) : Bool := match t, e with
  | .Tuple ts _ _, .Tuple vs _ _ => foldAll vs || !(ts.length == 2 || ts.length == 3)
  | .List _ _, .Tuple _ _ _ => false
  | _, _ => true
def setLc (sc : Scope) (t : Expr) (gens : List Comprehension) (scope : Scope) (pos : Pos) : Option Nat := match t with
  | .Name y py => if sc.names.lookup y = some .local ∧ (py.line == pos.line) = true ∧ (scope.names.any fun (n, k) => n == y && (k == .local || k == .cell)) = false then idx N y else none
  | _ => none
def vAssign (sc : Scope) (t e : Expr) : Fs := match t with
  | .Attribute o f _ => sFldF (fun c => tb.na c f) f (r.E sc o) (r.E sc e)
  | .Subscript o i _ => if isSlice i = false ∧ isComp e = false ∧ isTupE e = false then sSubF (r.E sc o) (r.E sc i) (r.E sc e) else sBad
  | .Tuple ts _ _ => (match e with
    | .Tuple vs _ _ => (match par2 N sc ts vs with
      | some (i, j) => sPar2 i j (evAs (r.E sc) vs)
      | none => (match par3 N sc ts vs with
        | some (i, j, k) => sPar3 i j k (evAs (r.E sc) vs)
        | none => if noSwap t e || cellIn sc ts then (match gOf N sc 8 t with
          | some (ft, _) => sAsg (r.E sc e) ft
          | none => sBad) else sBad))
    | _ => if isComp e = false then (match gOf N sc 8 t with
      | some (ft, _) => sAsg (r.E sc e) ft
      | none => sBad) else sBad)
  | .Name _ _ => (match e with
    | .ListComp elt gens scope pos => (match setLc N sc t gens scope pos, cpOf tb N r sc gens scope with
      | some i, some c => sSetE i (eLc c.fi c.ft c.fc (r.E scope elt) c.own)
      | _, _ => sBad)
    | _ => if isComp e = false then (match gOf N sc 8 t with
      | some (ft, _) => sAsg (r.E sc e) ft
      | none => sBad) else sBad)
  | _ => sBad
def stepS (sc : Scope) (s : Stmt) : Fs := match s with
  | .Pass _ => sNx
  | .Break _ => sBk
  | .Continue _ => sCt
  | .Expr e _ => if isComp e = false then sExpr (r.E sc e) else sBad
  | .Return e _ => (match e with
    | some e => sRet (r.E sc e)
    | none => sRetN)
  | .If c a b _ => sIf (r.T sc c) (r.Ss sc a) (r.Ss sc b)
  | .Assign ts e _ => (match ts with
    | [t] => vAssign tb N r sc t e
    | _ => sBad)
  | .For tg it body orelse _ => (match orelse with
    | [] => if isSet it = false then (match gOf N sc 8 tg with
      | some (ft, _) => sFor (iOf tb r sc tg it) ft (r.Ss sc body)
      | none => sBad) else sBad
    | _ => sBad)
  | .While c body orelse _ => (match orelse with
    | [] => whileGo (r.T sc c) (r.Ss sc body) wf
    | _ => sBad)
  | _ => sBad
def stepSs (sc : Scope) : List Stmt → Fs
  | [] => sNx
  | s :: ss => sSeq (stepS tb N wf r sc s) (stepSs sc ss)
def step : Ev := ⟨stepE tb cf N r, stepT tb cf r, stepSs tb N wf r⟩
end
def evBad : Ev := ⟨fun _ _ => xBad, fun _ _ => tBad, fun _ _ => sBad⟩
def ev (tb : Tb) (cf : Cf) (N : List Str) (wf : Nat) : Nat → Ev
  | 0 => evBad
  | n + 1 => step tb cf N wf (ev tb cf N wf n)

/-- a def: its parameters, its slots, its scope, its body -/
structure Fn where
  ps : List Str
  N : List Str
  sc : Scope
  body : List Stmt
def runBody (tb : Tb) (cf : Cf) (wf fuel : Nat) (f : Fn) (args : List Val) (h : Heap) : Rs Val :=
  if args.length = f.ps.length then match (ev tb cf f.N wf fuel).Ss f.sc f.body (args.map some ++ List.replicate (f.N.length - args.length) none) h with
    | .nx _ h' => .ok .non h'
    | .rt v h' => .ok v h'
    | .ex _ c fs h' => .ex c fs h'
    | _ => .bad else .bad
def callF (tb : Tb) (fns : Nat → Option Fn) (wf fuel : Nat) : Nat → Cf
  | 0 => fun _ _ _ => .bad
  | d + 1 => fun i args h => match fns i with
    | some f => runBody tb (callF tb fns wf fuel d) wf fuel f args h
    | none => .bad
end MP
end

section
/-! MP, part W: the evaluator is sound. -/
set_option autoImplicit false
set_option linter.all false
namespace MP
open PySem L2

structure FOk (g : G) (lv : Nat) (f : FI) (c : List Val → Heap → Rs Val) (a : Addr) : Prop where
  ex : ∃ (k : Nat) (fd : FuncData) (ps : List Str), k + 1 ≤ lv ∧ DOk g k f.np c a fd ps ∧ ∀ m, DV g fd ps (f.dv.drop m)
structure TbOk (g : G) (lv : Nat) (tb : Tb) (cf : Cf) : Prop where
  fn : ∀ x i f, tb.gn x = some (.fn i) → tb.fi i = some f → ∃ a, g.mg x = some (.ref a) ∧ PySem.W.keepIn g.K (.ref a) = true ∧ FOk g lv f (cf i) a
  mke : ∀ c i f, tb.ini c = some i → tb.fi i = some f → ∃ a, Mk g.K (g.C c) a ∧ FOk g lv f (cf i) a
  cls : ∀ x c, tb.gn x = some (.cls c) → g.mg x = some (.ref (g.C c))
  con : ∀ x v, tb.gn x = some (.con v) → GCon g x v
  blt : ∀ x, tb.gn x = some .blt → g.mg x = none
  mth : ∀ c m i f, tb.cm c m = some i → tb.fi i = some f → ∃ a, L2.Cls g.K (g.C c) ∧ Meth g.K (g.C c) m a ∧ FOk g lv f (cf i) a
  oe : ∀ c i f, tb.oe c = some i → tb.fi i = some f → ∃ a, PySem.W.findIn g.K (.ref (g.C c)) "__eq__" = some (some (.ref a)) ∧ PySem.W.isFn g.K (.ref a) = true ∧ PySem.W.findIn g.K (.ref (g.C c)) "__ne__" = some (some (.builtin "object.__ne__")) ∧
    PySem.W.mroIn g.K (g.C c) (.type "object") = some true ∧ FOk g lv f (cf i) a
  ob : ∀ op c i f, tb.ob op c = some i → tb.fi i = some f → ∃ a, PySem.W.findIn g.K (.ref (g.C c)) (PySem.dunder op.info.2) = some (some (.ref a)) ∧ PySem.W.isFn g.K (.ref a) = true ∧ PySem.W.selfFirst g.K (g.C c) = true ∧ InsTy g c ∧ FOk g lv f (cf i) a
  na : ∀ c f, tb.na c f = true → L2.Cls g.K (g.C c) ∧ NoAttr g.K (g.C c) f
  tt : TtOk g tb.tt
  nf : NfOk g tb.nf

theorem idx_get : ∀ {N : List Str} {x : Str} {i : Nat}, idx N x = some i → N[i]? = some x
  | [], x, i, e => by cases e
  | y :: r, x, i, e => by
    unfold idx at e
    split at e
    · rename_i h
      cases e
      rw [h]; rfl
    · obtain ⟨j, e1, rfl⟩ := Option.map_eq_some_iff.mp e
      simpa using idx_get e1

section
variable {g : G} {lv : Nat} {N : List Str} {tb : Tb} {cf : Cf} {wf : Nat} {r : Ev}
theorem so_bad' {sc : Scope} {e : Expr} : SoE g lv N sc xBad e := so_bad
theorem st_bad {sc : Scope} {e : Expr} : SoT g lv N sc tBad e := fun X W G ρ h H env σ Q r er q => q.elim
theorem sa_bad {sc : Scope} {e : List Expr} : SoA g lv N sc aBad e := fun X W G ρ h H env σ Q r er q => q.elim
theorem s_bad' {sc : Scope} {s : Stmt} : SoS g lv N sc sBad s := s_bad
theorem sw_bad {sc : Scope} {e : Expr} : SoW g lv N sc tBad e := fun X W G ρ h H env σ Q r er q => q.elim

structure EvOk (g : G) (lv : Nat) (N : List Str) (r : Ev) : Prop where
  E : ∀ sc e, SoE g lv N sc (r.E sc e) e
  T : ∀ sc e, SoT g lv N sc (r.T sc e) e
  Ss : ∀ sc ss, SoSs g lv N sc (r.Ss sc ss) ss

theorem tyName_ok {x : Str} {t : String} (e : tyName x = some t) : bootBuiltins x = some (.type t) ∧ x ≠ "__name__" := by
  unfold tyName at e
  split at e
  · rename_i h; subst h; cases e; exact ⟨rfl, by decide⟩
  split at e
  · rename_i h; subst h; cases e; exact ⟨rfl, by decide⟩
  split at e
  · rename_i h; subst h; cases e; exact ⟨rfl, by decide⟩
  split at e
  · rename_i h; subst h; cases e; exact ⟨rfl, by decide⟩
  split at e
  · rename_i h; subst h; cases e; exact ⟨rfl, by decide⟩
  split at e
  · rename_i h; subst h; cases e; exact ⟨rfl, by decide⟩
  · cases e
theorem ok_slot {sc : Scope} {x : Str} {p : Pos} (hv : Vis sc x) (hd : (x == ("__debug__" : Str)) = false) (hc : (x == ("__classdict__" : Str)) = false) : SoE g lv N sc (vSlot N x) (.Name x p) := by
  unfold vSlot
  split
  · rename_i i hi
    exact so_var (idx_get hi) hv hd hc
  · exact so_bad'
theorem ok_name (T : TbOk g lv tb cf) (sc : Scope) (x : Str) (p : Pos) : SoE g lv N sc (vName tb N sc x) (.Name x p) := by
  unfold vName
  split
  · exact so_bad'
  · rename_i hb
    rw [not_or] at hb
    have hd : (x == ("__debug__" : Str)) = false := by simpa using hb.1
    have hc : (x == ("__classdict__" : Str)) = false := by simpa using hb.2
    split
    · rename_i hx
      split
      · rename_i c hg
        exact so_cls hx (T.cls x c hg) hd
      · rename_i v hg
        exact so_gcon hx (T.con x v hg) hd
      · rename_i hg
        split
        · rename_i t ht
          obtain ⟨h1, h2⟩ := tyName_ok ht
          exact so_ty hx (T.blt x hg) h1 h2 hd
        · exact so_bad'
      · exact so_bad'
    · rename_i hk
      exact ok_slot (.inl hk) hd hc
    · rename_i hk
      exact ok_slot (.inr (.inl hk)) hd hc
    · rename_i hk
      exact ok_slot (.inr (.inr hk)) hd hc
    · exact so_bad'
theorem ok_const (sc : Scope) (c : Const) (k : Nat) (p : Pos) : SoE g lv N sc (vConst c) (.Constant c k p) := by
  cases c with
  | int i => exact so_int
  | bool b => exact so_bl
  | none => exact so_non
  | str x =>
    show SoE g lv N sc (if x.length ≤ lim then xLit (.str x) else xBad) _
    split
    · rename_i h; exact so_str (lim_le h)
    · exact so_bad'
  | _ => exact so_bad'
theorem ok_as {sc : Scope} {f : Expr → Fe} (F : ∀ e, SoE g lv N sc (f e) e) : ∀ es, SoA g lv N sc (evAs f es) es
  | [] => sa_nil
  | e :: es => by
    unfold evAs
    cases z : isSt e with
    | true => exact sa_bad
    | false => exact sa_cons z (F e) (ok_as F es)
theorem FOk.fill {f : FI} {c : List Val → Heap → Rs Val} {a : Addr} (h : FOk g lv f c a) (m : Nat) : ∃ (k : Nat) (fd : FuncData) (ps : List Str), k + 1 ≤ lv ∧ DOk g k f.np c a fd ps ∧ DV g fd ps (f.fill m) := by
  obtain ⟨k, fd, ps, h1, h2, h3⟩ := h.ex
  exact ⟨k, fd, ps, h1, h2, h3 _⟩
theorem obF_ok (T : TbOk g lv tb cf) (op : Operator) : ∀ c i, obF tb cf op c = some i → OBin g lv op c i := fun c i e => by
  obtain ⟨j, e1, e2⟩ := Option.bind_eq_some_iff.mp e
  obtain ⟨f, e3, rfl⟩ := Option.map_eq_some_iff.mp e2
  obtain ⟨a, h1, h2, h3, h4, h5⟩ := T.ob op c j f e1 e3
  obtain ⟨k, fd, ps, hk, D, V⟩ := h5.fill 2
  exact ⟨k, a, fd, ps, by omega, h1, h2, h3, h4, D, V⟩
theorem oeF_ok (T : TbOk g lv tb cf) : ∀ c i, oeF tb cf c = some i → OEq g lv c i := fun c i e => by
  obtain ⟨j, e1, e2⟩ := Option.bind_eq_some_iff.mp e
  obtain ⟨f, e3, rfl⟩ := Option.map_eq_some_iff.mp e2
  obtain ⟨a, h1, h2, h3, h4, h5⟩ := T.oe c j f e1 e3
  obtain ⟨k, fd, ps, hk, D, V⟩ := h5.fill 2
  exact ⟨k, a, fd, ps, hk, h1, h2, h3, h4, D, V⟩
theorem cmF_ok (T : TbOk g lv tb cf) (m : Str) (n : Nat) : ∀ c i, cmF tb cf m n c = some i → MOk g lv c m i := fun c i e => by
  obtain ⟨j, e1, e2⟩ := Option.bind_eq_some_iff.mp e
  obtain ⟨f, e3, rfl⟩ := Option.map_eq_some_iff.mp e2
  obtain ⟨a, h1, h2, h3⟩ := T.mth c m j f e1 e3
  obtain ⟨k, fd, ps, hk, D, V⟩ := h3.fill (n + 1)
  exact ⟨k, a, fd, ps, by omega, h1, h2, D, V⟩
theorem binF_ok (T : TbOk g lv tb cf) {op : Operator} {fo : Val → Val → Heap → Rs Val} (e : binF tb cf op = some fo) : SoOS g lv (binaryOp op) fo := by
  cases op <;> first
    | (cases e; exact bo_own (obF_ok T _) bo_add.p)
    | (cases e; exact bo_own (obF_ok T _) bo_sub.p)
    | (cases e; exact bo_own (obF_ok T _) bo_mul.p)
    | (cases e; exact bo_fdiv.p)
    | (cases e; exact bo_mod.p)
    | (cases e; exact bo_pow.p)
    | cases e
theorem cmp0_ok {op : CmpOp} {fo : Val → Val → Heap → Rs Val} (e : cmp0 op = some fo) : SoO g lv (compareOp op) fo := by
  cases op <;> first
    | (cases e; exact co_lt)
    | (cases e; exact co_le)
    | (cases e; exact co_gt)
    | (cases e; exact co_ge)
    | (cases e; exact co_is)
    | (cases e; exact co_isn)
    | (cases e; exact co_in)
    | (cases e; exact co_nin)
    | cases e
theorem cmpF_ok (T : TbOk g lv tb cf) (op : CmpOp) : SoOS g lv (compareOp op) (cmpF tb cf op) := by
  cases op
  · exact co_eq (oeF_ok T) T.nf
  · exact co_ne (oeF_ok T) T.nf
  · exact co_lt.p
  · exact co_le.p
  · exact co_gt.p
  · exact co_ge.p
  · exact co_is.p
  · exact co_isn.p
  · exact co_in.p
  · exact co_nin.p
theorem ok_andE {sc : Scope} {f : Expr → Fe} (F : ∀ e, SoE g lv N sc (f e) e) {p : Pos} : ∀ es, SoE g lv N sc (andE f es) (.BoolOp .And es p)
  | [] => so_bad'
  | [e] => so_one (F e)
  | e :: e' :: es => so_and (F e) (ok_andE F (e' :: es))
theorem ok_orE {sc : Scope} {f : Expr → Fe} (F : ∀ e, SoE g lv N sc (f e) e) {p : Pos} : ∀ es, SoE g lv N sc (orE f es) (.BoolOp .Or es p)
  | [] => so_bad'
  | [e] => so_one (F e)
  | e :: e' :: es => so_or (F e) (ok_orE F (e' :: es))
theorem ok_andT {sc : Scope} {f : Expr → Ft} (F : ∀ e, SoT g lv N sc (f e) e) {p : Pos} : ∀ es, SoW g lv N sc (andT f es) (.BoolOp .And es p)
  | [] => sw_bad
  | [e] => sw_and1 (F e)
  | e :: e' :: es => sw_and (F e) (ok_andT F (e' :: es))
theorem ok_orT {sc : Scope} {f : Expr → Ft} (F : ∀ e, SoT g lv N sc (f e) e) {p : Pos} : ∀ es, SoW g lv N sc (orT f es) (.BoolOp .Or es p)
  | [] => sw_bad
  | [e] => sw_or1 (F e)
  | e :: e' :: es => sw_or (F e) (ok_orT F (e' :: es))
/-- a built-in function -/
def BfOk (g : G) (lv : Nat) (x : Str) (f : List Val → Heap → Rs Val) : Prop := (x == ("__debug__" : Str)) = false ∧ x ≠ "__name__" ∧ ((∃ id, bootBuiltins x = some (.builtin id) ∧ SoF g lv (.builtin id) f) ∨ ∃ t, bootBuiltins x = some (.type t) ∧ SoF g lv (.type t) f)
theorem bfOf_ok (T : TbOk g lv tb cf) {x : Str} {f : List Val → Heap → Rs Val} (e : bfOf tb x = some f) : BfOk g lv x f := by
  unfold bfOf at e
  split at e
  · rename_i h; subst h; cases e; exact ⟨by decide, by decide, .inl ⟨_, rfl, bf_len.f⟩⟩
  split at e
  · rename_i h; subst h; cases e; exact ⟨by decide, by decide, .inr ⟨_, rfl, bf_int.f⟩⟩
  split at e
  · rename_i h; subst h; cases e; exact ⟨by decide, by decide, .inr ⟨_, rfl, bf_list.f⟩⟩
  split at e
  · rename_i h; subst h; cases e; exact ⟨by decide, by decide, .inr ⟨_, rfl, bf_tuple.f⟩⟩
  split at e
  · rename_i h; subst h; cases e; exact ⟨by decide, by decide, .inr ⟨_, rfl, bf_dict.f⟩⟩
  split at e
  · rename_i h; subst h; cases e; exact ⟨by decide, by decide, .inl ⟨_, rfl, bf_sorted.f⟩⟩
  split at e
  · rename_i h; subst h; cases e; exact ⟨by decide, by decide, .inl ⟨_, rfl, bf_sum.f⟩⟩
  split at e
  · rename_i h; subst h; cases e; exact ⟨by decide, by decide, .inl ⟨_, rfl, bf_all.f⟩⟩
  split at e
  · rename_i h; subst h; cases e; exact ⟨by decide, by decide, .inl ⟨_, rfl, bf_any.f⟩⟩
  split at e
  · rename_i h; subst h; cases e; exact ⟨by decide, by decide, .inl ⟨_, rfl, bf_isi T.tt⟩⟩
  · cases e
theorem bmOf_ok {m : Str} {tab : BK → Option Fm} (e : bmOf m = some tab) : ∀ k f, tab k = some f → BmOk g lv m k f := by
  unfold bmOf at e
  split at e
  · rename_i h; subst h; cases e; intro k f z; cases k <;> cases z; exact bm_append
  split at e
  · rename_i h; subst h; cases e; intro k f z; cases k <;> cases z <;> first | exact bm_clearL | exact bm_clearD
  split at e
  · rename_i h; subst h; cases e; intro k f z; cases k <;> cases z; exact bm_extend
  split at e
  · rename_i h; subst h; cases e; intro k f z; cases k <;> cases z; exact bm_pop
  split at e
  · rename_i h; subst h; cases e; intro k f z; cases k <;> cases z; exact bm_get
  split at e
  · rename_i h; subst h; cases e; intro k f z; cases k <;> cases z; exact bm_join
  split at e
  · rename_i h; subst h; cases e; intro k f z; cases k <;> cases z; exact bm_split
  split at e
  · rename_i h; subst h; cases e; intro k f z; cases k <;> cases z; exact bm_partition
  · cases e
theorem valuesOf_ok {args : List Expr} {e : Expr} {b : Bool} (h : valuesOf args = some (e, b)) : ∃ apos cpos, args = [.Call (.Attribute e "values" apos) [] [] cpos] ∧ b = (noSuper e && (apos.endLine == cpos.line)) := by
  unfold valuesOf at h
  split at h
  · split at h
    · rename_i hm
      cases h
      subst hm
      exact ⟨_, _, rfl, rfl⟩
    · cases h
  · cases h
theorem ok_call (T : TbOk g lv tb cf) (R : EvOk g lv N r) (sc : Scope) (x : Str) (args : List Expr) (p pos : Pos) : SoE g lv N sc (vCall tb cf r sc x args) (.Call (.Name x p) args [] pos) := by
  unfold vCall
  split
  · rename_i hc
    obtain ⟨hx, hd, hs⟩ := hc
    have hA := ok_as (R.E sc) args
    split
    · rename_i i hg
      split
      · rename_i f hf
        obtain ⟨a, h1, h2, h3⟩ := T.fn x i f hg hf
        obtain ⟨k, fd, ps, hk, D, V⟩ := h3.fill args.length
        cases args with
        | nil => exact so_call0 D (by omega) V hx h1 h2 hd
        | cons e es => exact so_call D (by omega) V hx h1 h2 hd hs hA
      · exact so_bad'
    · rename_i c hg
      split
      · rename_i e es i hi
        split
        · rename_i f hf
          obtain ⟨a, h1, h3⟩ := T.mke c i f hi hf
          obtain ⟨k, fd, ps, hk, D, V⟩ := h3.fill ((e :: es).length + 1)
          exact so_make h1 D hk V hx (T.cls x c hg) hd hs hA
        · exact so_bad'
      · exact so_bad'
    · rename_i hg
      split
      · exact so_bad'
      · rename_i e es
        have go : ∀ f, BfOk g lv x f → SoE g lv N sc (xBf (evAs (r.E sc) (e :: es)) f) (.Call (.Name x p) (e :: es) [] pos) := fun f ⟨h1, h2, h3⟩ => by
          rcases h3 with ⟨id, hb, hf⟩ | ⟨t, hb, hf⟩
          · exact so_bf hf hx (T.blt x hg) hb h2 h1 hs hA
          · exact so_bt hf hx (T.blt x hg) hb h2 h1 hs hA
        split
        · rename_i hl
          subst hl
          split
          · rename_i e' hv
            obtain ⟨apos, cpos, ha, hb⟩ := valuesOf_ok hv
            rw [ha]
            have hb' := Bool.and_eq_true_iff.mp hb.symm
            exact so_listVals hx (T.blt _ hg) hb'.1 hb'.2 (R.E sc e')
          · exact so_bad'
          · exact go _ ⟨by decide, by decide, .inr ⟨_, rfl, bf_list.f⟩⟩
        · split
          · rename_i f hf
            exact go f (bfOf_ok T hf)
          · exact so_bad'
    · exact so_bad'
  · exact so_bad'
theorem ok_meth (T : TbOk g lv tb cf) (R : EvOk g lv N r) (sc : Scope) (o : Expr) (m : Str) (apos : Pos) (args : List Expr) (pos : Pos) : SoE g lv N sc (vMeth tb cf r sc o m apos args pos) (.Call (.Attribute o m apos) args [] pos) := by
  unfold vMeth
  split
  · rename_i hc
    obtain ⟨h1, h2, h3, h4⟩ := hc
    have hA := ok_as (R.E sc) args
    split
    · rename_i tab ht
      cases args with
      | nil => exact so_bm0 (bmOf_ok ht) h1 h2 (R.E sc o)
      | cons e es => exact so_bm (bmOf_ok ht) h1 h3 h4 h2 (R.E sc o) hA
    · cases args with
      | nil => exact so_meth0 (cmF_ok T m _) h1 h2 (R.E sc o)
      | cons e es => exact so_meth (cmF_ok T m _) h1 h3 h4 h2 (R.E sc o) hA
  · exact so_bad'
end
end MP
end

section
/-! MP, part X: the evaluator is sound: targets, sources, comprehensions, steps. -/
set_option autoImplicit false
set_option linter.all false
namespace MP
open PySem L2
section
variable {g : G} {lv : Nat} {N : List Str} {tb : Tb} {cf : Cf} {wf : Nat} {r : Ev}
def NoEx (f : Fg) : Prop := ∀ v env h c fs h', f v env h ≠ .ex c fs h'
def NoExs (f : Fgs) : Prop := ∀ v env h c fs h', f v env h ≠ .ex c fs h'
theorem gOf_ok (sc : Scope) : ∀ n, (∀ e f sl, gOf N sc n e = some (f, sl) → SoG g lv N sc sl f e ∧ NoEx f) ∧ (∀ es f sl, gsOf N sc n es = some (f, sl) → SoGs g lv N sc sl f es ∧ NoExs f) := by
  have nm : ∀ (x : Str) (p : Pos) (f : Fg) (sl : List Nat), (if sc.names.lookup x = some .local ∨ sc.names.lookup x = some .cell then (idx N x).map fun i => (gNm i, [i]) else none) = some (f, sl) → SoG g lv N sc sl f (.Name x p) ∧ NoEx f := fun x p f sl e => by
    split at e
    · rename_i hx
      obtain ⟨i, e1, e2⟩ := Option.map_eq_some_iff.mp e
      cases e2
      exact ⟨g_name (idx_get e1) hx, fun v env h c fs h' z => nomatch z⟩
    · cases e
  have nil : ∀ (f : Fgs) (sl : List Nat), some (gsNil, ([] : List Nat)) = some (f, sl) → SoGs g lv N sc sl f [] ∧ NoExs f := fun f sl e => by
    cases e
    exact ⟨gs_nil, fun v env h c fs h' z => by unfold gsNil at z; split at z <;> exact nomatch z⟩
  intro n
  induction n with
  | zero =>
    refine ⟨fun e f sl h => ?_, fun es f sl h => ?_⟩
    · cases e <;> first
        | (rename_i x p; exact nm x p f sl (by unfold gOf at h; exact h))
        | (unfold gOf at h; cases h)
    · cases es with
      | nil => exact nil f sl (by unfold gsOf at h; exact h)
      | cons e es => unfold gsOf at h; cases h
  | succ n ih =>
    refine ⟨fun e f sl h => ?_, fun es f sl h => ?_⟩
    · cases e <;> first
        | (rename_i x p; exact nm x p f sl (by unfold gOf at h; exact h))
        | (rename_i es k p
           unfold gOf at h
           split at h
           · rename_i hs
             obtain ⟨⟨f', sl'⟩, e1, e2⟩ := Option.map_eq_some_iff.mp h
             cases e2
             obtain ⟨a, b⟩ := ih.2 es f' _ e1
             refine ⟨g_tup hs a, fun v env h c fs h' z => ?_⟩
             unfold gTp at z
             split at z
             · split at z
               · exact b _ _ _ _ _ _ z
               · exact nomatch z
             · exact nomatch z
           · cases h)
        | (unfold gOf at h; cases h)
    · cases es with
      | nil => exact nil f sl (by unfold gsOf at h; exact h)
      | cons e es =>
        unfold gsOf at h
        split at h
        · rename_i f1 s1 f2 s2 e1 e2
          split at h
          · cases h
          · rename_i hst
            cases h
            obtain ⟨a1, b1⟩ := ih.1 e f1 s1 e1
            obtain ⟨a2, b2⟩ := ih.2 es f2 s2 e2
            refine ⟨gs_cons (by simpa using hst) a1 a2, fun v env h c fs h' z => ?_⟩
            unfold gsCons at z
            split at z
            · rename_i v' r'
              cases z1 : f1 v' env h with
              | ok env1 h1 => rw [z1] at z; exact b2 _ _ _ _ _ _ z
              | ex c' fs' h1 => exact b1 _ _ _ _ _ _ z1
              | bad => rw [z1] at z; exact nomatch z
            · exact nomatch z
        · cases h
theorem isBlt_ok {o : Option GN} (h : isBlt o = true) : o = some .blt := by
  unfold isBlt at h
  split at h
  · rfl
  · cases h
theorem iOf_ok (T : TbOk g lv tb cf) (R : EvOk g lv N r) (sc : Scope) (tg it : Expr) : SoI g lv N sc (iOf tb r sc tg it) tg it := by
  have dflt : ∀ it, SoI g lv N sc (iVal (r.E sc it)) tg it := fun it => i_val (R.E sc it)
  unfold iOf
  split
  · rename_i e m apos cpos
    split
    · rename_i hc
      obtain ⟨h1, h2, rfl⟩ := hc
      split
      · exact i_items h1 h2 (R.E sc e)
      · exact dflt _
    · split
      · rename_i hc
        obtain ⟨h1, h2, rfl⟩ := hc
        exact i_vals h1 h2 (R.E sc e)
      · exact dflt _
  · rename_i x p a pos
    split
    · rename_i hc
      obtain ⟨rfl, h1, h2, h3⟩ := hc
      have hb : tb.gn "range" = some .blt := isBlt_ok h2
      exact i_rng1 h1 (T.blt _ hb) h3 (ok_as (R.E sc) [a])
    · exact dflt _
  · rename_i x p a b pos
    split
    · rename_i hc
      obtain ⟨rfl, h1, h2, h3, h4⟩ := hc
      have hb : tb.gn "range" = some .blt := isBlt_ok h2
      exact i_rng2 h1 (T.blt _ hb) h3 h4 (ok_as (R.E sc) [a, b])
    · exact dflt _
  · exact dflt _
theorem pOf_ok (R : EvOk g lv N r) (sc : Scope) : ∀ o, SoP g lv N sc (pOf r sc o) o
  | none => sp_none
  | some e => sp_some (R.E sc e)
theorem ifsOf_ok (R : EvOk g lv N r) (sc : Scope) {ifs : List Expr} {f : Ft} (e : ifsOf r sc ifs = some f) : SoTs g lv N sc f ifs := by
  match ifs, e with
  | [], e => cases e; exact ts_nil
  | [c], e => cases e; exact ts_one (R.T sc c)
  | _ :: _ :: _, e => cases e
structure CpOk (g : G) (lv : Nat) (N : List Str) (sc scope : Scope) (gens : List Comprehension) (c : Cp) : Prop where
  ex : ∃ (tg it : Expr) (ifs : List Expr) (own : List (Str × Nat)) (sl : List Nat), gens = [⟨tg, it, ifs, 0⟩] ∧ c.own = own.map (·.2) ∧ isSet it = false ∧ blkC N sc scope own = true ∧ (∀ i ∈ sl, i ∈ own.map (·.2)) ∧ NoEx c.ft ∧ SoI g lv N sc c.fi tg it ∧ SoG g lv N scope sl c.ft tg ∧ SoTs g lv N scope c.fc ifs
theorem cpOf_ok (T : TbOk g lv tb cf) (R : EvOk g lv N r) {sc scope : Scope} {gens : List Comprehension} {c : Cp} (e : cpOf tb N r sc gens scope = some c) : CpOk g lv N sc scope gens c := by
  unfold cpOf at e
  split at e
  · rename_i tg it ifs a
    split at e
    · rename_i hc
      obtain ⟨rfl, h1, h2⟩ := hc
      split at e
      · rename_i ft sl fc e1 e2
        split at e
        · rename_i hs
          cases e
          obtain ⟨a1, b1⟩ := (gOf_ok scope 8).1 tg ft sl e1
          exact ⟨tg, it, ifs, ownOf N scope, sl, rfl, rfl, h1, h2, fun i hi => of_decide_eq_true (List.all_eq_true.mp hs i hi), b1, iOf_ok T R sc tg it, a1, ifsOf_ok R scope e2⟩
        · cases e
      · cases e
    · cases e
  · cases e
theorem isRev_ok {lo hi st : Option Expr} (h : isRev lo hi st = true) : ∃ k p1 p2, lo = none ∧ hi = none ∧ st = some (.UnaryOp .USub (.Constant (.int 1) k p1) p2) := by
  unfold isRev at h
  split at h
  · rename_i i k p1 p2
    cases of_decide_eq_true h
    exact ⟨k, p1, p2, rfl, rfl, rfl⟩
  · cases h
theorem stepE_ok (T : TbOk g lv tb cf) (R : EvOk g lv N r) (sc : Scope) (e : Expr) : SoE g lv N sc (stepE tb cf N r sc e) e := by
  cases e <;> unfold stepE
  case Name x p => exact ok_name T sc x p
  case Constant c k p => exact ok_const sc c k p
  case BinOp a op b p =>
    dsimp only
    split
    · rename_i fo hf
      exact sp_bin (binF_ok T hf) (R.E sc a) (R.E sc b)
    · exact so_bad'
  case UnaryOp op a p =>
    cases op
    case Not => exact so_not (R.E sc a)
    case USub => exact so_neg (R.E sc a)
    all_goals exact so_bad'
  case BoolOp op es p =>
    cases op
    · exact ok_andE (R.E sc) es
    · exact ok_orE (R.E sc) es
  case Compare a ops bs p =>
    dsimp only
    split
    · rename_i op b
      split
      · rename_i hm
        exact sp_cmp hm (cmpF_ok T op) (R.E sc a) (R.E sc b)
      · exact so_bad'
    · rename_i op op' b c
      split
      · rename_i fo fo' h1 h2
        split
        · rename_i hm
          exact so_chain hm (cmp0_ok h1) (cmp0_ok h2) (R.E sc a) (R.E sc b) (R.E sc c)
        · exact so_bad'
      · exact so_bad'
    · exact so_bad'
  case IfExp c a b p => exact so_ifx (R.T sc c) (R.E sc a) (R.E sc b)
  case Tuple es k p =>
    dsimp only
    split
    · exact so_tup0
    · exact so_tup (ok_as (R.E sc) _)
  case List es p => exact so_lst (ok_as (R.E sc) es)
  case Dict ks vs p =>
    dsimp only
    split
    · exact so_dnew
    · exact so_bad'
  case Call f args kws pos =>
    dsimp only
    split
    · exact ok_call T R sc _ args _ pos
    · exact ok_meth T R sc _ _ _ args pos
    · exact so_bad'
  case Attribute o f p =>
    dsimp only
    split
    · rename_i h
      exact so_fld (T.na · f) h (R.E sc o)
    · exact so_bad'
  case Subscript a i p =>
    dsimp only
    split
    · rename_i lo hi st p'
      split
      · exact so_slice (R.E sc a) (pOf_ok R sc lo) (pOf_ok R sc hi)
      · rename_i st'
        split
        · rename_i hr
          obtain ⟨k, p1, p2, rfl, rfl, h3⟩ := isRev_ok hr
          cases h3
          exact so_rev (R.E sc a)
        · exact so_bad'
    · rename_i hn
      refine so_ix ?_ (R.E sc a) (R.E sc i)
      cases i <;> first | rfl | exact absurd rfl (hn _ _ _ _)
  case ListComp elt gens scope p =>
    dsimp only
    split
    · rename_i c hc
      obtain ⟨tg, it, ifs, own, sl, rfl, ho, h1, h2, h3, h4, h5, h6, h7⟩ := (cpOf_ok T R hc).ex
      rw [ho]
      exact so_lc h1 h2 h3 h4 h5 h6 h7 (R.E scope elt)
    · exact so_bad'
  case DictComp k v gens scope p =>
    dsimp only
    split
    · rename_i c hc
      obtain ⟨tg, it, ifs, own, sl, rfl, ho, h1, h2, h3, h4, h5, h6, h7⟩ := (cpOf_ok T R hc).ex
      rw [ho]
      exact so_dc h1 h2 h3 h4 h5 h6 h7 (R.E scope k) (R.E scope v)
    · exact so_bad'
  all_goals exact so_bad'
theorem stepT_ok (T : TbOk g lv tb cf) (R : EvOk g lv N r) (sc : Scope) (e : Expr) : SoT g lv N sc (stepT tb cf r sc e) e := by
  cases e <;> unfold stepT
  case UnaryOp op a p =>
    cases op
    case Not => exact st_not (R.T sc a)
    all_goals exact st_val rfl (R.E sc _)
  case BoolOp op es p =>
    cases op
    · exact (ok_andT (R.T sc) es).t
    · exact (ok_orT (R.T sc) es).t
  case Compare a ops bs p =>
    dsimp only
    split
    · rename_i op b
      split
      · rename_i hm
        exact tp_cmp hm (cmpF_ok T op) (R.E sc a) (R.E sc b)
      · exact st_bad
    · rename_i op op' b c
      split
      · rename_i fo fo' h1 h2
        split
        · rename_i hm
          exact st_chain hm (cmp0_ok h1) (cmp0_ok h2) (R.E sc a) (R.E sc b) (R.E sc c)
        · exact st_bad
      · exact st_bad
    · exact st_bad
  case IfExp => exact st_bad
  all_goals exact st_val rfl (R.E sc _)
end
end MP
end

section
/-! MP, part Y: statements, defs. -/
set_option autoImplicit false
set_option linter.all false
namespace MP
open PySem L2
section
variable {g : G} {lv : Nat} {N : List Str} {tb : Tb} {cf : Cf} {wf : Nat} {r : Ev}
theorem kind_loc {env : PySem.Env} {sc : Scope} (h : ScR env.scope sc) {x : Str} (hx : sc.names.lookup x = some .local) : env.kindOf x = some NameKind.local := by
  unfold Env.kindOf
  exact h.same (by decide) hx
theorem blockFn {env : PySem.Env} (h : env.scope.kind = .function) : env.blockKind = .function := by
  unfold Env.blockKind
  rw [h]; rfl
theorem anyNo {f : Expr → Bool} (hf : ∀ e, isSt e = false → f e = false) : ∀ {vs : List Expr}, vs.all (fun e => !isSt e) = true → vs.any f = false
  | [], _ => rfl
  | e :: es, h => by
    simp only [List.all_cons, Bool.and_eq_true, Bool.not_eq_true'] at h
    rw [List.any_cons, hf e h.1, anyNo hf h.2]; rfl
theorem dups2 {x y : Str} (h : x ≠ y) : [x, y].eraseDups.length = 2 := by
  have : (y == x) = false := by simpa using fun e => h e.symm
  simp [List.eraseDups_cons, this]
theorem dups3 {x y z : Str} (h : x ≠ y) (h2 : x ≠ z) (h3 : y ≠ z) : [x, y, z].eraseDups.length = 3 := by
  have e1 : (y == x) = false := by simpa using fun e => h e.symm
  have e2 : (z == x) = false := by simpa using fun e => h2 e.symm
  have e3 : (z == y) = false := by simpa using fun e => h3 e.symm
  simp [List.eraseDups_cons, e1, e2, e3]
theorem swap2 {sc : Scope} {x y : Str} {px py pt pt2 : Pos} {kt k2 : Nat} {a b : Expr} (hx : sc.names.lookup x = some .local) (hy : sc.names.lookup y = some .local) (hxy : x ≠ y) (hl : (px.line == py.line) = true) (hf : foldAll [a, b] = false) (hc : [a, b].all (constantsAlone 8) = false) (ha : isSt a = false) (hb : isSt b = false)
    (env : PySem.Env) (hS : ScR env.scope sc) (hk : env.scope.kind = .function) : swappedStores [.Tuple [.Name x px, .Name y py] kt pt] (.Tuple [a, b] k2 pt2) env = pure (some [x, y]) := by
  have kx := kind_loc hS hx
  have ky := kind_loc hS hy
  have hl' : (py.line == px.line) = true := by rw [beq_iff_eq] at *; exact hl.symm
  have hp : (px.line == px.line) = true := by simp
  unfold foldAll at hf
  unfold swappedStores
  dsimp only
  rw [if_neg (by rw [blockFn hk]; exact Bool.false_ne_true), if_neg (by rw [anyNo (fun e h => by cases e <;> first | rfl | cases h) (by simp [ha, hb])]; decide)]
  simp only [List.filterMap_cons, List.filterMap_nil, kx, ky, List.head?_cons, Option.map_some, Option.getD_some, Expr.pos, hl', hp, beq_self_eq_true, Bool.and_true, if_true]
  rw [if_neg (by rw [dups2 hxy]; exact Bool.false_ne_true), if_neg (by rw [hf]; decide), if_neg (by rw [hc]; decide)]
theorem swap3 {sc : Scope} {x y z : Str} {px py pz pt pt2 : Pos} {kt k2 : Nat} {a b c : Expr} (hx : sc.names.lookup x = some .local) (hy : sc.names.lookup y = some .local) (hz : sc.names.lookup z = some .local) (hxy : x ≠ y) (hxz : x ≠ z) (hyz : y ≠ z) (hl : (px.line == py.line) = true) (hm : (px.line == pz.line) = true)
    (hf : foldAll [a, b, c] = false) (hc : [a, b, c].all (constantsAlone 8) = false) (ha : isSt a = false) (hb : isSt b = false) (hcc : isSt c = false)
    (env : PySem.Env) (hS : ScR env.scope sc) (hk : env.scope.kind = .function) : swappedStores [.Tuple [.Name x px, .Name y py, .Name z pz] kt pt] (.Tuple [a, b, c] k2 pt2) env = pure (some [x, y, z]) := by
  have kx := kind_loc hS hx
  have ky := kind_loc hS hy
  have kz := kind_loc hS hz
  have hl' : (py.line == px.line) = true := by rw [beq_iff_eq] at *; exact hl.symm
  have hm' : (pz.line == px.line) = true := by rw [beq_iff_eq] at *; exact hm.symm
  have hp : (px.line == px.line) = true := by simp
  unfold foldAll at hf
  unfold swappedStores
  dsimp only
  rw [if_neg (by rw [blockFn hk]; exact Bool.false_ne_true), if_neg (by rw [anyNo (fun e h => by cases e <;> first | rfl | cases h) (by simp [ha, hb, hcc])]; decide)]
  simp only [List.filterMap_cons, List.filterMap_nil, kx, ky, kz, List.head?_cons, Option.map_some, Option.getD_some, Expr.pos, hl', hm', hp, beq_self_eq_true, Bool.and_true, if_true]
  rw [if_neg (by rw [dups3 hxy hxz hyz]; exact Bool.false_ne_true), if_neg (by rw [hf]; decide), if_neg (by rw [hc]; decide)]
theorem noSwap_tup {ts vs : List Expr} {k k' : Nat} {p p' : Pos} (h : (foldAll vs || !(ts.length == 2 || ts.length == 3)) = true) (env : PySem.Env) : swappedStores [.Tuple ts k p] (.Tuple vs k' p') env = pure none := by
  unfold swappedStores
  dsimp only
  by_cases h1 : (!(ts.length == 2 || ts.length == 3) || vs.length != ts.length || env.blockKind != ScopeKind.function) = true
  · rw [if_pos h1]
  · rw [if_neg h1]
    split
    · rfl
    · split
      · rfl
      · rw [if_pos]
        rcases Bool.or_eq_true_iff.mp h with h | h
        · exact h
        · rw [h] at h1; simp at h1
theorem noSwap_ok {t e : Expr} (h : noSwap t e = true) : swappedStores [t] e = fun _ => pure none := by
  funext env
  cases t <;> first
    | rfl
    | (cases e <;> first
        | rfl
        | exact noSwap_tup h env
        | cases h)
theorem filt_lt {α β : Type} {f : α → Option β} : ∀ {l : List α} {a : α}, a ∈ l → f a = none → (l.filterMap f).length < l.length
  | b :: l, a, h, e => by
    rw [List.filterMap_cons]
    rcases List.mem_cons.mp h with rfl | h
    · rw [e]
      exact Nat.lt_succ_of_le (List.length_filterMap_le _ _)
    · have ih := filt_lt h e
      cases f b with
      | none => exact Nat.lt_succ_of_lt ih
      | some c => exact Nat.succ_lt_succ ih
theorem cellIn_ok {sc : Scope} {ts vs : List Expr} {k k' : Nat} {p p' : Pos} (h : cellIn sc ts = true) (env : PySem.Env) (hS : ScR env.scope sc) : swappedStores [.Tuple ts k p] (.Tuple vs k' p') env = pure none := by
  obtain ⟨t, ht, hc⟩ := List.any_eq_true.mp h
  unfold swappedStores
  dsimp only
  split
  · rfl
  · split
    · rfl
    · rw [if_pos]
      rw [Bool.or_eq_true]
      refine .inl ?_
      have key : ∀ {f : Expr → Option Str}, f t = none → ((ts.filterMap f).length != ts.length) = true := fun {f} e => by
        exact bne_iff_ne.mpr (Nat.ne_of_lt (filt_lt ht e))
      apply key
      cases t with
      | Name x px =>
        have hx : sc.names.lookup x = some .cell := of_decide_eq_true hc
        have kx : env.kindOf x = some .cell := by
          unfold Env.kindOf
          exact hS.same (by decide) hx
        dsimp only
        rw [kx]
        rfl
      | _ => cases hc
theorem s_asgC {sc : Scope} {f : Fe} {ft : Fg} {sl : List Nat} {t e : Expr} {pos : Pos} (h1 : swapsWithSole [t] e pos.line = fun _ => pure false) (h2 : ∀ env : PySem.Env, ScR env.scope sc → swappedStores [t] e env = pure none) (h3 : isSt t = false) (hx : ∀ v env h c fs h', ft v env h ≠ .ex c fs h')
    (he : SoE g lv N sc f e) (ht : SoG g lv N sc sl ft t) : SoS g lv N sc (sAsg f ft) (.Assign [t] e pos) := by
  intro X W G ρ h H env σ D r er q
  refine (ps_asg (self_e X e) (self_g X t) (by rw [h1]) (h2 X.env G.hsc) (each_one h3 X.env)).se ?_
  refine he X W G ρ h H env σ _ r er (QR.imp (QS.lift r er q) fun x H1 ⟨ρ1, h1, v, s1, r1, t1, _, q1⟩ => ?_)
  exact ht X W G ρ1 h1 H1 env σ v x D.nx r1 (er.step r s1) t1 (QS.asg q1 (hx v env h1))
theorem sole_comp {t e : Expr} (h : isComp e = false) (n : Nat) : swapsWithSole [t] e n = fun _ => pure false := by
  funext env
  exact swaps_no h (some t) n env
theorem gOf_st {sc : Scope} {n : Nat} {t : Expr} {f : Fg} {sl : List Nat} (h : gOf N sc n t = some (f, sl)) : isSt t = false := by
  cases t <;> first
    | rfl
    | (cases n <;> (unfold gOf at h; cases h))
theorem ok_assign (T : TbOk g lv tb cf) (R : EvOk g lv N r) (sc : Scope) (t e : Expr) (p : Pos) : SoS g lv N sc (vAssign tb N r sc t e) (.Assign [t] e p) := by
  have plain : ∀ (t e : Expr), isComp e = false → noSwap t e = true → SoS g lv N sc (match gOf N sc 8 t with
      | some (ft, _) => sAsg (r.E sc e) ft
      | none => sBad) (.Assign [t] e p) := fun t e h1 h2 => by
    split
    · rename_i ft sl hg
      obtain ⟨a, b⟩ := (gOf_ok sc 8).1 t ft sl hg
      exact s_asg (sole_comp h1 _) (noSwap_ok h2) (gOf_st hg) b (R.E sc e) a
    · exact s_bad'
  cases t <;> unfold vAssign
  case Attribute o f p' => exact s_fld (T.na · f) (.inr True.intro) (R.E sc o) (R.E sc e)
  case Subscript o i p' =>
    dsimp only
    split
    · rename_i h
      exact s_sub h.1 h.2.1 h.2.2 (R.E sc o) (R.E sc i) (R.E sc e)
    · exact s_bad'
  case Tuple ts k p' =>
    dsimp only
    split
    · rename_i vs k2 p2
      split
      · rename_i i j hp
        unfold par2 at hp
        split at hp
        · rename_i x px y py a b
          split at hp
          · rename_i hc
            obtain ⟨hx, hy, hxy, hl, hf, hcc, ha, hb⟩ := hc
            split at hp
            · rename_i i' j' hi hj
              cases hp
              refine s_par (idx_get hi) (idx_get hj) (fun z => ?_) hx hy (swap2 hx hy hxy hl hf hcc ha hb) (ok_as (R.E sc) _)
              subst z
              have e1 := idx_get hi
              rw [idx_get hj] at e1
              exact hxy (Option.some.inj e1).symm
            · cases hp
          · cases hp
        · cases hp
      · split
        · rename_i i j l hp
          unfold par3 at hp
          split at hp
          · rename_i x px y py z pz a b c
            split at hp
            · rename_i hc
              obtain ⟨hx, hy, hz, hxy, hxz, hyz, hl, hm, hf, hcc, ha, hb, hc'⟩ := hc
              split at hp
              · rename_i i' j' l' hi hj hk
                cases hp
                have ne : ∀ {m n : Nat} {u v : Str}, idx N u = some m → idx N v = some n → u ≠ v → m ≠ n := fun {m n u v} h1 h2 h3 z => by
                  subst z
                  have e1 := idx_get h1
                  rw [idx_get h2] at e1
                  exact h3 (Option.some.inj e1).symm
                exact s_par3 (idx_get hi) (idx_get hj) (idx_get hk) (ne hi hj hxy) (ne hi hk hxz) (ne hj hk hyz) hx hy hz (swap3 hx hy hz hxy hxz hyz hl hm hf hcc ha hb hc') (ok_as (R.E sc) _)
              · cases hp
            · cases hp
          · cases hp
        · split
          · rename_i hn
            rcases Bool.or_eq_true_iff.mp hn with hn | hn
            · exact plain _ _ rfl hn
            · split
              · rename_i ft sl hg
                obtain ⟨a, b⟩ := (gOf_ok sc 8).1 _ ft sl hg
                exact s_asgC (sole_comp rfl _) (fun env hS => cellIn_ok hn env hS) (gOf_st hg) b (R.E sc _) a
              · exact s_bad'
          · exact s_bad'
    · rename_i hn
      split
      · rename_i hc
        refine plain _ e hc ?_
        cases e <;> first | rfl | exact absurd rfl (hn _ _ _)
      · exact s_bad'
  case Name y py =>
    dsimp only
    split
    · rename_i elt gens scope pos
      split
      · rename_i i c hi hc
        obtain ⟨tg, it, ifs, own, sl, rfl, ho, h1, h2, h3, h4, h5, h6, h7⟩ := (cpOf_ok T R hc).ex
        unfold setLc at hi
        dsimp only at hi
        split at hi
        · rename_i hh
          obtain ⟨q1, q2, q3⟩ := hh
          rw [ho]
          refine s_setLc (idx_get hi) q1 (fun env hS hk => ?_) h1 h2 h3 h4 h5 h6 h7 (R.E scope elt)
          unfold swapsWith
          have q2' : (py.line == (Expr.ListComp elt [⟨tg, it, ifs, 0⟩] scope pos).pos.line) = true := q2
          dsimp only
          rw [blockFn hk, kind_loc hS q1, q2', q3]
          rfl
        · cases hi
      · exact s_bad'
    · split
      · rename_i hc
        exact plain _ e hc rfl
      · exact s_bad'
  all_goals exact s_bad'
theorem stepS_ok (T : TbOk g lv tb cf) (R : EvOk g lv N r) (sc : Scope) (s : Stmt) : SoS g lv N sc (stepS tb N wf r sc s) s := by
  cases s <;> unfold stepS
  case Pass => exact s_pass
  case Break => exact s_break
  case Continue => exact s_continue
  case Expr e p =>
    dsimp only
    split
    · rename_i h; exact s_expr h (R.E sc e)
    · exact s_bad'
  case Return e p =>
    cases e with
    | some e => exact s_ret (R.E sc e)
    | none => exact s_retN
  case If c a b p => exact s_if (R.T sc c) (R.Ss sc a) (R.Ss sc b)
  case Assign ts e p =>
    dsimp only
    split
    · exact ok_assign T R sc _ e p
    · exact s_bad'
  case For tg it body orelse p =>
    dsimp only
    split
    · split
      · rename_i h
        split
        · rename_i ft sl hg
          obtain ⟨a, b⟩ := (gOf_ok sc 8).1 tg ft sl hg
          exact s_for h b (iOf_ok T R sc tg it) a (R.Ss sc body)
        · exact s_bad'
      · exact s_bad'
    · exact s_bad'
  case While c body orelse p =>
    dsimp only
    split
    · exact s_while (R.T sc c) (R.Ss sc body)
    · exact s_bad'
  all_goals exact s_bad'
theorem stepSs_ok (T : TbOk g lv tb cf) (R : EvOk g lv N r) (sc : Scope) : ∀ ss, SoSs g lv N sc (stepSs tb N wf r sc ss) ss
  | [] => ss_nil
  | s :: ss => ss_cons (stepS_ok T R sc s) (stepSs_ok T R sc ss)
theorem ss_bad {sc : Scope} {ss : List Stmt} : SoSs g lv N sc sBad ss := fun X W G ρ h H env σ Q r er q => q.elim
theorem ev_ok (T : TbOk g lv tb cf) : ∀ n, EvOk g lv N (ev tb cf N wf n)
  | 0 => ⟨fun _ _ => so_bad', fun _ _ => st_bad, fun _ _ => ss_bad⟩
  | n + 1 => ⟨fun sc e => stepE_ok T (ev_ok T n) sc e, fun sc e => stepT_ok T (ev_ok T n) sc e, fun sc ss => stepSs_ok T (ev_ok T n) sc ss⟩
end
end MP
end

section
/-! MP, part Z: defs and calls by depth. -/
set_option autoImplicit false
set_option linter.all false
namespace MP
open PySem L2 PySem.Spec PyProof.Rows
section
variable {g : G} {tb : Tb} {fns : Nat → Option Fn} {wf fuel : Nat}
theorem VRs.start {ρ : Nat → Addr} {n : Nat} {H : Hp} {N : List Str} : ∀ {args : List Val} {vs : List L2.V}, VRs g ρ n H args vs → ER g ρ n H (args.map some ++ List.replicate (N.length - args.length) none) (L2.start N vs) := fun {args vs} t => by
  unfold L2.start
  have hl := t.length
  refine ⟨by simp [hl], fun i v e => ?_⟩
  by_cases hi : i < args.length
  · rw [List.getElem?_append_left (by simpa using hi), List.getElem?_map] at e
    obtain ⟨a, e1, e2⟩ := Option.map_eq_some_iff.mp e
    cases e2
    obtain ⟨x, e3, e4⟩ := t.get e1
    exact ⟨x, by rw [List.getElem?_append_left (by simpa [← hl] using hi), List.getElem?_map, e3]; rfl, e4⟩
  · rw [List.getElem?_append_right (by simpa using Nat.le_of_not_lt hi)] at e
    rw [List.getElem?_replicate] at e
    split at e <;> cases e
/-- what the head says of a def -/
structure DefOk (g : G) (f : Fn) (a : Addr) (fd : FuncData) : Prop where
  ex : ∃ (x qual : Str) (params : Arguments) (dvs : List L2.V) (kws : List (Str × L2.V)), FunD g.K x qual params f.body f.sc dvs kws a fd
  sc : FnScope f.N f.ps f.sc
theorem good_cx {lv : Nat} {f : Fn} {a : Addr} {qual : Str} {cdv : Value} {A : Around} {outer : List PySem.Env} {s : Shared} {H : Hp} {E : XK} (nd : f.N.Nodup) (hr : Room lv (A.deeper (envOfC qual f.sc s.heap.objs.size a cdv))) :
    Good g (cxOf (CXg g) g.P g.w g.K g.mg g.base f.N qual f.sc a cdv A outer s H E) f.N f.sc (fun cls d _ H => E cls d H) lv where
  hP := rfl
  hw := rfl
  hK := rfl
  hmg := rfl
  hbase := rfl
  hN := rfl
  nd := nd
  hsc := ScR.refl _
  calm := rfl
  room := hr
  tk := takes_of rfl rfl rfl rfl
  pown := passes_of rfl
  cell := fun _ _ => rfl
theorem body_ok {lv : Nat} {cf : Cf} (T : TbOk g lv tb cf) {f : Fn} {a : Addr} {fd : FuncData} (D : DefOk g f a fd) : DOk g (lv + 1) f.ps.length (runBody tb cf wf fuel f) a fd f.ps := by
  obtain ⟨x, qual, params, dvs, kws, F⟩ := D.ex
  refine ⟨F.ok D.sc (fun vs H Q E ⟨ρ, h, args, r, t, hn, q⟩ => by rw [← t.length]; exact hn) fun cdv A outer s H vs Q E hr ⟨ρ, h, args, r, t, hn, q⟩ => ?_⟩
  have G := good_cx (g := g) (E := E) (outer := outer) (H := H) D.sc.nd hr
  refine ⟨_, self_ss _ _, (ev_ok (wf := wf) T fuel).Ss f.sc f.body _ _ G ρ h H _ _ _ r t.start ?_⟩
  have q' : QR g (VR g) (fun cls d _ H' => E cls d H') ρ h H [] (runBody tb cf wf fuel f args h) Q := q
  unfold runBody at q'
  rw [if_pos hn] at q'
  cases z : (ev tb cf f.N wf fuel).Ss f.sc f.body (args.map some ++ List.replicate (f.N.length - args.length) none) h with
  | nx env' h' =>
    rw [z] at q'
    exact fun ρ' H' σ' st r' er' => q' ρ' H' .non st r' VR.non
  | rt v h' =>
    rw [z] at q'
    exact fun ρ' H' x st r' t' => q' ρ' H' x st r' t'
  | bk e h' => rw [z] at q'; exact q'.elim
  | ct e h' => rw [z] at q'; exact q'.elim
  | ex e c fs h' =>
    rw [z] at q'
    exact fun ρ' H' σ' d xs st r' er' => q' ρ' H' d xs st r'
  | bad => rw [z] at q'; exact q'.elim
/-- what the head says -/
structure Hd (g : G) (tb : Tb) (fns : Nat → Option Fn) (ad : Nat → Addr) (fdt : Nat → FuncData) : Prop where
  dfn : ∀ i f, fns i = some f → DefOk g f (ad i) (fdt i)
  fi : ∀ i f, tb.fi i = some f → ∃ fn, fns i = some fn ∧ f.np = fn.ps.length ∧ ∀ m, DV g (fdt i) fn.ps (f.dv.drop m)
  fn : ∀ x i, tb.gn x = some (.fn i) → g.mg x = some (.ref (ad i)) ∧ PySem.W.keepIn g.K (.ref (ad i)) = true
  mke : ∀ c i, tb.ini c = some i → Mk g.K (g.C c) (ad i)
  cls : ∀ x c, tb.gn x = some (.cls c) → g.mg x = some (.ref (g.C c))
  con : ∀ x v, tb.gn x = some (.con v) → GCon g x v
  blt : ∀ x, tb.gn x = some .blt → g.mg x = none
  mth : ∀ c m i, tb.cm c m = some i → L2.Cls g.K (g.C c) ∧ Meth g.K (g.C c) m (ad i)
  oe : ∀ c i, tb.oe c = some i → PySem.W.findIn g.K (.ref (g.C c)) "__eq__" = some (some (.ref (ad i))) ∧ PySem.W.isFn g.K (.ref (ad i)) = true ∧ PySem.W.findIn g.K (.ref (g.C c)) "__ne__" = some (some (.builtin "object.__ne__")) ∧
    PySem.W.mroIn g.K (g.C c) (.type "object") = some true
  ob : ∀ op c i, tb.ob op c = some i → PySem.W.findIn g.K (.ref (g.C c)) (PySem.dunder op.info.2) = some (some (.ref (ad i))) ∧ PySem.W.isFn g.K (.ref (ad i)) = true ∧ PySem.W.selfFirst g.K (g.C c) = true ∧ InsTy g c
  na : ∀ c f, tb.na c f = true → L2.Cls g.K (g.C c) ∧ NoAttr g.K (g.C c) f
  tt : TtOk g tb.tt
  nf : NfOk g tb.nf
variable {ad : Nat → Addr} {fdt : Nat → FuncData}
theorem Hd.tbk (h : Hd g tb fns ad fdt) {k : Nat} {cf : Cf} (D : ∀ i f fn, tb.fi i = some f → fns i = some fn → DOk g k fn.ps.length (cf i) (ad i) (fdt i) fn.ps) : TbOk g (k + 1) tb cf := by
  have F : ∀ i f, tb.fi i = some f → FOk g (k + 1) f (cf i) (ad i) := fun i f e => by
    obtain ⟨fn, e1, e2, e3⟩ := h.fi i f e
    exact ⟨k, fdt i, fn.ps, Nat.le_refl _, by rw [e2]; exact D i f fn e e1, e3⟩
  refine ⟨fun x i f e1 e2 => ?_, fun c i f e1 e2 => ?_, h.cls, h.con, h.blt, fun c m i f e1 e2 => ?_, fun c i f e1 e2 => ?_, fun op c i f e1 e2 => ?_, h.na, h.tt, h.nf⟩
  · obtain ⟨a, b⟩ := h.fn x i e1
    exact ⟨ad i, a, b, F i f e2⟩
  · exact ⟨ad i, h.mke c i e1, F i f e2⟩
  · obtain ⟨a, b⟩ := h.mth c m i e1
    exact ⟨ad i, a, b, F i f e2⟩
  · obtain ⟨a, b, c', d⟩ := h.oe c i e1
    exact ⟨ad i, a, b, c', d, F i f e2⟩
  · obtain ⟨a, b, c', d⟩ := h.ob op c i e1
    exact ⟨ad i, a, b, c', d, F i f e2⟩
theorem Hd.call (h : Hd g tb fns ad fdt) : ∀ d i fn, fns i = some fn → DOk g (2 * d) fn.ps.length (callF tb fns wf fuel d i) (ad i) (fdt i) fn.ps
  | 0, i, fn, e => ⟨⟨fun vs H Q E ⟨ρ, h', args, r, t, hn, q⟩ => q.elim, fun A outer s H args us vs Q E hr e0 b v ⟨ρ, h', args', r, t, hn, q⟩ => q.elim⟩⟩
  | d + 1, i, fn, e => by
    have T : TbOk g (2 * d + 1) tb (callF tb fns wf fuel d) := h.tbk fun i f fn' e1 e2 => Hd.call h d i fn' e2
    have B := body_ok (wf := wf) (fuel := fuel) T (h.dfn i fn e)
    have ec : callF tb fns wf fuel (d + 1) i = runBody tb (callF tb fns wf fuel d) wf fuel fn := by
      funext args h'
      show (match fns i with | some f => runBody tb (callF tb fns wf fuel d) wf fuel f args h' | none => .bad) = _
      rw [e]
    rw [ec]
    exact B
end
end MP
end

section
/-! MP, part QA: the head's facts by checks. -/
set_option autoImplicit false
set_option linter.all false
namespace MP
open PySem L2 PySem.Spec PyProof.Rows

/-- a default as the text has it -/
inductive Dfl where
  | non | bl (b : Bool) | int (i : Int) | str (x : Str) | ety
def Dfl.val : Dfl → Val
  | .non => .non
  | .bl b => .bl b
  | .int i => .int i
  | .str x => .str x
  | .ety => .tup []
def Dfl.dv (p : Str × Option Str) (i : Nat) : Dfl → He.Dv
  | .non => .non
  | .bl b => .bl b
  | .int i => .int i
  | .str x => .str x
  | .ety => .adr (He.dflAt p i)
def dvsOf (p : Str × Option Str) : Nat → List Dfl → List He.Dv
  | _, [] => []
  | i, d :: r => d.dv p i :: dvsOf p (i + 1) r
structure FD where
  at_ : Str × Option Str
  name : Str
  qual : Str
  params : Arguments
  body : List Stmt
  scope : Scope
  ps : List Str
  N : List Str
  dfl : List Dfl := []
def FD.d (f : FD) : He.DefD := ⟨f.at_, f.name, f.qual, f.params, f.body, f.scope, dvsOf f.at_ 0 f.dfl, []⟩
def FD.fn (f : FD) : Fn := ⟨f.ps, f.N, f.scope, f.body⟩
def FD.fi (f : FD) : FI := ⟨f.ps.length, f.dfl.map Dfl.val⟩
def etyB (K : PySem.W.Frag) (a : Addr) : Bool := match K.lookup a with
  | some ⟨.type c, none, .seq its _, _⟩ => decide (c = "tuple") && decide (its = #[])
  | _ => false
def dflOk (K : PySem.W.Frag) (p : Str × Option Str) : Nat → List Dfl → Bool
  | _, [] => true
  | i, d :: r => (match d with
    | .ety => etyB K (He.dflAt p i K)
    | .str x => decide (x.length ≤ lim)
    | _ => true) && dflOk K p (i + 1) r
structure Dt where
  fns : List FD
  cls : List Str
  gns : List (Str × GN)
  inis : List (Nat × Nat)
  cms : List ((Nat × Str) × Nat)
  oes : List (Nat × Nat)
  obs : List ((Operator × Nat) × Nat)
  nas : List (Nat × Str)
  tts : List ((Ty × Ty) × Bool)
  nfs : List (Nat × Ty)
def look {α β : Type} [DecidableEq α] (l : List (α × β)) (a : α) : Option β := (l.find? fun p => decide (p.1 = a)).map (·.2)
theorem look_mem {α β : Type} [DecidableEq α] {l : List (α × β)} {a : α} {b : β} (h : look l a = some b) : (a, b) ∈ l := by
  obtain ⟨p, e1, e2⟩ := Option.map_eq_some_iff.mp h
  have h1 := List.mem_of_find?_eq_some e1
  have h2 := List.find?_some e1
  obtain ⟨a', b'⟩ := p
  cases of_decide_eq_true h2
  cases e2
  exact h1
def Dt.tb (D : Dt) : Tb where
  gn := look D.gns
  fi := fun i => D.fns[i]?.map FD.fi
  ini := look D.inis
  cm := fun c m => look D.cms (c, m)
  oe := look D.oes
  ob := fun op c => look D.obs (op, c)
  na := fun c f => decide ((c, f) ∈ D.nas)
  tt := fun t u => look D.tts (t, u)
  nf := fun c t => decide ((c, t) ∈ D.nfs)
def Dt.fn (D : Dt) (i : Nat) : Option Fn := D.fns[i]?.map FD.fn
/-- where a function, a class stands -/
def Dt.ad (D : Dt) (K : PySem.W.Frag) (i : Nat) : Addr := match D.fns[i]? with
  | some f => He.fAd K f.at_
  | none => 0
def Dt.cad (D : Dt) (K : PySem.W.Frag) (c : Nat) : Addr := match D.cls[c]? with
  | some x => He.ga K x
  | none => 0
def Dt.fdt (D : Dt) (K : PySem.W.Frag) (i : Nat) : FuncData := match K.lookup (D.ad K i) with
  | some ⟨_, _, .func fd, _⟩ => fd
  | _ => default
def clsB (K : PySem.W.Frag) (C : Addr) : Bool := PySem.W.plainGet K C Str.empty && (PySem.W.hasDictIn K C && (PySem.W.plainOver K C && He.eqO (PySem.W.findIn K (.ref C) "__setattr__") (some (some (.builtin "object.__setattr__")))))
theorem clsB_ok {K : PySem.W.Frag} {C : Addr} (h : clsB K C = true) : L2.Cls K C := by
  obtain ⟨c1, c⟩ := He.ba h
  obtain ⟨c2, c⟩ := He.ba c
  obtain ⟨c3, c4⟩ := He.ba c
  exact ⟨c1, c2, c3, He.eqO_ok c4⟩
def insB (K : PySem.W.Frag) (C : Addr) : Bool := clsB K C && (He.eqO (PySem.W.findIn K (.ref C) "__class__") (some (some (.builtin "object.__class__"))) && (He.eqO (PySem.W.specialIn K (.builtin "object.__class__") "__get__") (some (some (.builtin "getset_descriptor.__get__"))) &&
  (decide (PySem.W.takesIn K (.builtin "object.__class__") = some true) && decide (PySem.W.mroIn K C (.type "object") = some true))))
def tyA (D : Dt) (K : PySem.W.Frag) : Ty → Value
  | .b n => .type n
  | .c k => .ref (D.cad K k)
def conB (K : PySem.W.Frag) (x : Str) : Val → Bool
  | .int i => (match PySem.W.nsIn K mainGlobals x with
    | some (some (.int j _)) => decide (j = i)
    | _ => false)
  | .str z => decide (z.length ≤ lim) && (match PySem.W.nsIn K mainGlobals x with
    | some (some (.str y _)) => decide (y = z)
    | _ => false)
  | .bl b => (match PySem.W.nsIn K mainGlobals x with
    | some (some (.bool c)) => decide (c = b)
    | _ => false)
  | _ => false
def Dt.okG (D : Dt) (K : PySem.W.Frag) (p : Str × GN) : Bool := match p.2 with
  | .fn i => He.eqO (PySem.W.nsIn K mainGlobals p.1) (some (some (.ref (D.ad K i)))) && decide (i < D.fns.length)
  | .cls c => He.eqO (PySem.W.nsIn K mainGlobals p.1) (some (some (.ref (D.cad K c))))
  | .blt => He.eqO (PySem.W.nsIn K mainGlobals p.1) (some none)
  | .con v => conB K p.1 v
def Dt.okM (D : Dt) (K : PySem.W.Frag) (C : Addr) (m : Str) (i : Nat) : Bool := He.eqO (PySem.W.findIn K (.ref C) m) (some (some (.ref (D.ad K i)))) && PySem.W.isFn K (.ref (D.ad K i))
def Dt.ok (D : Dt) (K : PySem.W.Frag) : Bool :=
  D.gns.all (D.okG K) && (D.fns.all (fun f => dflOk K f.at_ 0 f.dfl)) &&
  (D.inis.all fun p => PySem.W.makesIn K (D.cad K p.1) && (D.okM K (D.cad K p.1) "__init__" p.2 && PySem.W.keepIn K (.ref (D.cad K p.1)))) &&
  (D.cms.all fun p => clsB K (D.cad K p.1.1) && (D.okM K (D.cad K p.1.1) p.1.2 p.2 && PySem.W.keepIn K (.ref (D.ad K p.2)))) &&
  (D.oes.all fun p => D.okM K (D.cad K p.1) "__eq__" p.2 && (He.eqO (PySem.W.findIn K (.ref (D.cad K p.1)) "__ne__") (some (some (.builtin "object.__ne__"))) && decide (PySem.W.mroIn K (D.cad K p.1) (.type "object") = some true))) &&
  (D.obs.all fun p => D.okM K (D.cad K p.1.2) (PySem.dunder p.1.1.info.2) p.2 && (PySem.W.selfFirst K (D.cad K p.1.2) && insB K (D.cad K p.1.2))) &&
  (D.nas.all fun p => clsB K (D.cad K p.1) && He.eqO (PySem.W.findIn K (.ref (D.cad K p.1)) p.2) (some none)) &&
  (D.tts.all fun p => (match p.1.1 with | .c k => insB K (D.cad K k) | _ => true) && decide (PySem.W.kitOne K (tyA D K p.1.1) (tyA D K p.1.2) = some p.2)) &&
  (D.nfs.all fun p => (match p.2 with | .c k => insB K (D.cad K k) | _ => true) && PySem.W.notFirst K (D.cad K p.1) (tyA D K p.2))
/-- a def's scope, its slots -/
def FD.scB (f : FD) : Bool := decide (f.scope.kind = .function) && (f.scope.isCoroutine == false && (f.scope.isGenerator == false && (decide f.N.Nodup && (decide (f.N.take f.ps.length = f.ps) && ((f.ps.all fun x => decide (f.scope.names.lookup x = some .local) || decide (f.scope.names.lookup x = some .cell)) && f.scope.names.all fun y => decide (y.2 ≠ .free))))))
theorem FD.scB_ok {f : FD} (h : f.scB = true) : FnScope f.N f.ps f.scope := by
  obtain ⟨h1, h⟩ := He.ba h
  obtain ⟨h2, h⟩ := He.ba h
  obtain ⟨h3, h⟩ := He.ba h
  obtain ⟨h4, h⟩ := He.ba h
  obtain ⟨h5, h⟩ := He.ba h
  obtain ⟨h6, h7⟩ := He.ba h
  refine ⟨of_decide_eq_true h1, eq_of_beq h2, eq_of_beq h3, of_decide_eq_true h4, of_decide_eq_true h5, fun x hx => ?_, fun y hy => of_decide_eq_true (List.all_eq_true.mp h7 y hy)⟩
  have := List.all_eq_true.mp h6 x hx
  rcases Bool.or_eq_true_iff.mp this with e | e
  · exact .inl (of_decide_eq_true e)
  · exact .inr (of_decide_eq_true e)
/-- how a def binds: n values are given, the defaults behind the first j fill up -/
def FD.Bnd (f : FD) : Prop := match f.dfl with
  | [] => ∀ (kV doc pm : Value) (an : Option Addr) (cdv ct : Value) (us : List Value), us.length = f.ps.length → bindArgs (PySem.W.fnOf f.name f.qual f.params f.body f.scope .none kV doc pm an cdv ct) ⟨us, []⟩ = pure (f.ps.zip us)
  | _ :: _ => ∀ (n j : Nat), j ≤ f.dfl.length → n + (f.dfl.length - j) = f.ps.length → ∀ (T : Addr) (kV doc pm : Value) (an : Option Addr) (cdv ct : Value) (us its : List Value), us.length = n → its.length = f.dfl.length →
      ∃ k, bindArgs (PySem.W.fnOf f.name f.qual f.params f.body f.scope (.ref T) kV doc pm an cdv ct) ⟨us, []⟩ = seqItems? (.ref T) >>= k ∧ k (some its.toArray) = pure (f.ps.zip (us ++ its.drop j))
theorem dvsOf_len (p : Str × Option Str) : ∀ (i : Nat) (l : List Dfl), (dvsOf p i l).length = l.length
  | _, [] => rfl
  | i, d :: r => by
    show (dvsOf p (i + 1) r).length + 1 = r.length + 1
    rw [dvsOf_len]
theorem dfl_vals {g : G} {p : Str × Option Str} : ∀ (i : Nat) (l : List Dfl), dflOk g.K p i l = true → ∀ (ρ : Nat → Addr) (n : Nat) (H : Hp), VRs g ρ n H (l.map Dfl.val) ((dvsOf p i l).map (He.Dv.v g.K))
  | _, [], _, ρ, n, H => by show VRs g ρ n H [] []; rw [VRs]
  | i, d :: r, h, ρ, n, H => by
    unfold dflOk at h
    obtain ⟨h1, h2⟩ := He.ba h
    show VRs g ρ n H (d.val :: r.map Dfl.val) ((d.dv p i).v g.K :: (dvsOf p (i + 1) r).map (He.Dv.v g.K))
    rw [VRs]
    refine ⟨_, _, rfl, ?_, dfl_vals (i + 1) r h2 ρ n H⟩
    cases d with
    | non => exact VR.non
    | bl b => exact VR.bl
    | int i => exact VR.int
    | str x => exact VR.str (lim_le (of_decide_eq_true h1))
    | ety =>
      have h1' : etyB g.K (He.dflAt p i g.K) = true := h1
      unfold etyB at h1'
      split at h1'
      · rename_i c its k sl e
        obtain ⟨a, b⟩ := He.ba h1'
        have a := of_decide_eq_true a
        have b := of_decide_eq_true b
        subst a b
        show VR g ρ n H (.tup []) (.ref (He.dflAt p i g.K))
        rw [VR]
        refine ⟨_, [], rfl, ⟨.inr ⟨_, #[], k, e, rfl, rfl, by decide, .nil⟩, fun _ => ⟨_, k, .inr e, rfl, rfl, rfl⟩⟩, by rw [VRs]⟩
      · cases h1'
theorem drop_vals {g : G} {ρ : Nat → Addr} {n : Nat} {H : Hp} {vs : List Val} {xs : List L2.V} (t : VRs g ρ n H vs xs) (m : Nat) : VRs g ρ n H (vs.drop m) (xs.drop m) := t.drop m
theorem dv_ok {g : G} {f : FD} (B : f.Bnd) {a : Addr} {fd : FuncData} (F : FunD g.K f.d.name f.d.qual f.d.params f.d.body f.d.scope (f.d.dvs g.K) (f.d.kws g.K) a fd) (hd : dflOk g.K f.at_ 0 f.dfl = true) (hl : f.dfl.length ≤ f.ps.length) (m : Nat) : DV g fd f.ps ((f.dfl.map Dfl.val).drop m) := by
  have V := dfl_vals (g := g) 0 f.dfl hd
  unfold FD.Bnd at B
  split at B
  · rename_i e
    have F' : FunD g.K f.d.name f.d.qual f.d.params f.d.body f.d.scope [] (f.d.kws g.K) a fd := by
      have e2 : f.d.dvs g.K = [] := by show (dvsOf f.at_ 0 f.dfl).map _ = []; rw [e]; rfl
      rw [← e2]; exact F
    refine ⟨[], [], F'.bindsN B, .nil, fun ρ n H => ?_⟩
    rw [e]
    show VRs g ρ n H (List.drop m []) []
    rw [List.drop_nil, VRs]
  · rename_i d r e
    have hne : f.d.dvs g.K ≠ [] := by
      show (dvsOf f.at_ 0 f.dfl).map _ ≠ []
      rw [e]; exact List.cons_ne_nil _ _
    have hl2 : (f.d.dvs g.K).length = f.dfl.length := by show ((dvsOf f.at_ 0 f.dfl).map _).length = _; rw [List.length_map, dvsOf_len]
    by_cases hm : m ≤ f.dfl.length
    · obtain ⟨ds, hv, hb⟩ := FunD.binds1 (ps := f.ps) F (f.ps.length - (f.dfl.length - m)) m hne (by rw [hl2]; omega) fun T kV doc pm an cdv ct us its h1 h2 => B _ m hm (by omega) T kV doc pm an cdv ct us its h1 (by rw [← hl2]; exact h2)
      exact ⟨ds, _, hb, hv, fun ρ n H => (V ρ n H).drop m⟩
    · obtain ⟨ds, hv, hb⟩ := FunD.binds1 (ps := f.ps) F f.ps.length f.dfl.length hne (by rw [hl2]; omega) fun T kV doc pm an cdv ct us its h1 h2 => B _ f.dfl.length (Nat.le_refl _) (by omega) T kV doc pm an cdv ct us its h1 (by rw [← hl2]; exact h2)
      refine ⟨ds, _, hb, hv, fun ρ n H => ?_⟩
      have h3 := (V ρ n H).drop f.dfl.length
      have e1 : (f.dfl.map Dfl.val).drop f.dfl.length = (f.dfl.map Dfl.val).drop m := by
        rw [List.drop_of_length_le (by simp), List.drop_of_length_le (by simp; omega)]
      rw [e1] at h3
      exact h3

theorem allP {α : Type} {l : List α} {f : α → Bool} (h : l.all f = true) {a : α} (ha : a ∈ l) : f a = true := List.all_eq_true.mp h a ha
theorem insB_ok {g : G} {c : Nat} (h : insB g.K (g.C c) = true) : InsTy g c := by
  obtain ⟨h1, h⟩ := He.ba h
  obtain ⟨h2, h⟩ := He.ba h
  obtain ⟨h3, h⟩ := He.ba h
  obtain ⟨h4, h5⟩ := He.ba h
  exact ⟨clsB_ok h1, He.eqO_ok h2, He.eqO_ok h3, of_decide_eq_true h4, of_decide_eq_true h5⟩
/-- THE HEAD, by checks -/
theorem Dt.hd {D : Dt} {P : Program} {w : World} {K : PySem.W.Frag} {mg : Str → Option Value} {base h : PySem.Heap} (X : K.In h) (G : h.Ns mainGlobals mg) (hk : D.ok K = true) (hf : ∀ f ∈ D.fns, f.d.ok K = true) (he : ∀ f ∈ D.fns, He.fnW K f.at_ = f.d.val)
    (hs : ∀ f ∈ D.fns, f.scB = true) (hb : ∀ f ∈ D.fns, f.Bnd) (hl : ∀ f ∈ D.fns, f.dfl.length ≤ f.ps.length) : Hd ⟨P, w, K, mg, base, D.cad K⟩ D.tb D.fn (D.ad K) (D.fdt K) := by
  obtain ⟨hk, k9⟩ := He.ba hk
  obtain ⟨hk, k8⟩ := He.ba hk
  obtain ⟨hk, k7⟩ := He.ba hk
  obtain ⟨hk, k6⟩ := He.ba hk
  obtain ⟨hk, k5⟩ := He.ba hk
  obtain ⟨hk, k4⟩ := He.ba hk
  obtain ⟨hk, k3⟩ := He.ba hk
  obtain ⟨k1, k2⟩ := He.ba hk
  have fnd : ∀ i f, D.fns[i]? = some f → FunD K f.d.name f.d.qual f.d.params f.d.body f.d.scope (f.d.dvs K) (f.d.kws K) (D.ad K i) (D.fdt K i) := fun i f e => by
    have hm := List.mem_of_getElem? e
    obtain ⟨fd, F⟩ := He.DefD.funD (K := K) (d := f.d) (he f hm) (hf f hm)
    have ea : D.ad K i = He.fAd K f.at_ := by unfold Dt.ad; rw [e]
    have ef : D.fdt K i = fd := by
      obtain ⟨oc, od, dV, kV, doc, pm, an, cdv, ct, osl, _, lk, _⟩ := F.ex
      unfold Dt.fdt
      rw [ea]
      have lk' : K.lookup (He.fAd K f.at_) = some ⟨oc, od, .func fd, osl⟩ := lk
      rw [lk']
    rw [ea, ef]; exact F
  have okM : ∀ {C : Addr} {m : Str} {i : Nat}, D.okM K C m i = true → PySem.W.findIn K (.ref C) m = some (some (.ref (D.ad K i))) ∧ PySem.W.isFn K (.ref (D.ad K i)) = true := fun {C m i} h => by
    obtain ⟨a, b⟩ := He.ba h
    exact ⟨He.eqO_ok a, b⟩
  refine ⟨fun i f e => ?_, fun i f e => ?_, fun x i e => ?_, fun c i e => ?_, fun x c e => ?_, fun x v e => ?_, fun x e => ?_, fun c m i e => ?_, fun c i e => ?_, fun op c i e => ?_, fun c f e => ?_, ⟨fun c u b e => ?_, fun t u b e => ?_⟩, ⟨fun c t e => ?_, fun c k e => ?_⟩⟩
  · obtain ⟨d, e1, rfl⟩ := Option.map_eq_some_iff.mp (show D.fns[i]?.map FD.fn = some f from e)
    exact ⟨⟨_, _, _, _, _, fnd i d e1⟩, FD.scB_ok (hs d (List.mem_of_getElem? e1))⟩
  · obtain ⟨d, e1, rfl⟩ := Option.map_eq_some_iff.mp (show D.fns[i]?.map FD.fi = some f from e)
    have hm := List.mem_of_getElem? e1
    exact ⟨d.fn, by show D.fns[i]?.map FD.fn = _; rw [e1]; rfl, rfl, fun m => dv_ok (g := ⟨P, w, K, mg, base, D.cad K⟩) (hb d hm) (fnd i d e1) (allP k2 hm) (hl d hm) m⟩
  · have q := allP k1 (look_mem e)
    obtain ⟨a, b⟩ := He.ba (show (He.eqO (PySem.W.nsIn K mainGlobals x) (some (some (.ref (D.ad K i)))) && decide (i < D.fns.length)) = true from q)
    have hi := of_decide_eq_true b
    exact ⟨PySem.W.mg_of X G (He.eqO_ok a), (fnd i _ (List.getElem?_eq_getElem hi)).kp⟩
  · have q := allP k3 (look_mem e)
    obtain ⟨a, q⟩ := He.ba q
    obtain ⟨b, c'⟩ := He.ba q
    obtain ⟨m1, m2⟩ := okM b
    exact ⟨a, m1, m2, c'⟩
  · have q := allP k1 (look_mem e)
    exact PySem.W.mg_of X G (He.eqO_ok (show He.eqO (PySem.W.nsIn K mainGlobals x) (some (some (.ref (D.cad K c)))) = true from q))
  · have q : conB K x v = true := allP k1 (look_mem e)
    cases v with
    | int i =>
      simp only [conB] at q
      split at q
      · rename_i j t z
        have := of_decide_eq_true q
        subst this
        exact ⟨_, .int j, PySem.W.mg_of X G z, ⟨t, rfl⟩, fun _ _ _ => VR.int⟩
      · cases q
    | bl i =>
      simp only [conB] at q
      split at q
      · rename_i j z
        have := of_decide_eq_true q
        subst this
        exact ⟨_, .bl j, PySem.W.mg_of X G z, rfl, fun _ _ _ => VR.bl⟩
      · cases q
    | str i =>
      simp only [conB] at q
      obtain ⟨q0, q⟩ := He.ba q
      split at q
      · rename_i j t z
        have := of_decide_eq_true q
        subst this
        exact ⟨_, .str j, PySem.W.mg_of X G z, ⟨t, rfl⟩, fun _ _ _ => VR.str (lim_le (of_decide_eq_true q0))⟩
      · cases q
    | _ => cases q
  · have q := allP k1 (look_mem e)
    exact PySem.W.mg_none_of X G (He.eqO_ok (show He.eqO (PySem.W.nsIn K mainGlobals x) (some none) = true from q))
  · have q := allP k4 (look_mem e)
    obtain ⟨a, q⟩ := He.ba q
    obtain ⟨b, c'⟩ := He.ba q
    obtain ⟨m1, m2⟩ := okM b
    exact ⟨clsB_ok a, m1, m2, c'⟩
  · have q := allP k5 (look_mem e)
    obtain ⟨a, q⟩ := He.ba q
    obtain ⟨b, c'⟩ := He.ba q
    obtain ⟨m1, m2⟩ := okM a
    exact ⟨m1, m2, He.eqO_ok b, of_decide_eq_true c'⟩
  · have q := allP k6 (look_mem e)
    obtain ⟨a, q⟩ := He.ba q
    obtain ⟨b, c'⟩ := He.ba q
    obtain ⟨m1, m2⟩ := okM a
    exact ⟨m1, m2, b, insB_ok (g := ⟨P, w, K, mg, base, D.cad K⟩) c'⟩
  · have q := allP k7 (of_decide_eq_true e)
    obtain ⟨a, b⟩ := He.ba q
    exact ⟨clsB_ok a, He.eqO_ok b⟩
  · have q := allP k8 (look_mem e)
    exact insB_ok (g := ⟨P, w, K, mg, base, D.cad K⟩) (He.ba q).1
  · have q := allP k8 (look_mem e)
    have z := of_decide_eq_true (He.ba q).2
    cases t <;> cases u <;> exact z
  · have q := allP k9 (of_decide_eq_true e)
    have z := (He.ba q).2
    cases t <;> exact z
  · have q := allP k9 (of_decide_eq_true e)
    exact insB_ok (g := ⟨P, w, K, mg, base, D.cad K⟩) (He.ba q).1
end MP
end

section
/-! MP, part QB: the Hook, the law. -/
set_option autoImplicit false
set_option linter.all false
namespace MP
open PySem L2 PySem.Spec PyProof.Rows
abbrev AlM : Type := Bool × List He.FnW
def Dt.obsK (D : Dt) (K : PySem.W.Frag) : AlM := (D.ok K && D.fns.all (fun f => f.d.ok K), D.fns.map fun f => He.fnW K f.at_)
def Dt.valK (D : Dt) : AlM := (true, D.fns.map fun f => f.d.val)
def Dt.obsG (D : Dt) (n : Nat) (g : Addr → Option Obj) : AlM := D.obsK (He.frG g (He.asD g n))
def Dt.hook (D : Dt) (n : Nat) : PySem.W.Hook where
  α := AlM
  obs := fun s => D.obsG n s.heap.get?
  val := fun _ => D.valK
  says := fun _ h => ∃ K : PySem.W.Frag, K.In h ∧ D.obsK K = D.valK
  of := fun _ _ e => ⟨_, He.frG_in, e⟩
  keeps := fun _ _ _ ⟨K, hK, c⟩ k => ⟨K, PySem.W.Frag.In.keeps hK k, c⟩
def Dt.ob (D : Dt) (n : Nat) (s : PySem.W.SharedT) : AlM := D.obsG n (HandSHeadRun.getT s)
theorem Dt.ob_eq (D : Dt) (n : Nat) (s : PySem.W.SharedT) : D.ob n s = (D.hook n).obs s.abs := by
  have e : HandSHeadRun.getT s = s.abs.heap.get? := funext (HandSHeadRun.getT_eq s)
  show D.obsG n (HandSHeadRun.getT s) = D.obsG n s.abs.heap.get?
  rw [e]
theorem map_all {α β : Type} {f g : α → β} : ∀ {l : List α}, l.map f = l.map g → ∀ a ∈ l, f a = g a
  | [], _, a, h => absurd h List.not_mem_nil
  | b :: l, e, a, h => by
    rw [List.map_cons, List.map_cons] at e
    injection e with e1 e2
    rcases List.mem_cons.mp h with rfl | h
    · exact e1
    · exact map_all e2 a h
/-- the law's promise over every base -/
theorem Dt.facts {D : Dt} {P : Program} {w : World} {K : PySem.W.Frag} {mg : Str → Option Value} {h : PySem.Heap} {fa : Addr} {i : Nat} {f : FD} {x lw : Str} {wf fuel d : Nat} (X : K.In h) (G : h.Ns mainGlobals mg) (hfa : mg lw = some (.ref fa)) (c : D.obsK K = D.valK)
    (hs : ∀ f ∈ D.fns, f.scB = true) (hb : ∀ f ∈ D.fns, f.Bnd) (hl : ∀ f ∈ D.fns, f.dfl.length ≤ f.ps.length) (hi : D.fns[i]? = some f) (hg : (lw, GN.fn i) ∈ D.gns) (hps : f.ps = [x]) (hdf : f.dfl = [])
    (main : ∀ ns : List Int, ns.length ≤ 63 → ∃ h', callF D.tb D.fn wf fuel d i [.scr ns] [] = .ok (.bl true) h') :
    ∃ (fd : FuncData) (sp : Sp), (∀ (s : Shared) (u : Value), BindsTo s fd ⟨[u], []⟩ [(x, u)]) ∧
        (∀ (H : Hp) (a : Addr) (ns : List Int), ns.length ≤ 63 → Only H → SqL K H a (ns.map V.int) → sp [.ref a] H (fun v _ => v = .bl true) fun _ _ _ => False) ∧
        ∀ base : PySem.Heap, K.In base → base.Ns mainGlobals mg → FnOk P w K mg base (L2.CX P w) (2 * d) fa fd [x] sp := by
  have c1 : (D.ok K && D.fns.all (fun f => f.d.ok K)) = true := congrArg (fun z : AlM => z.1) c
  have c2 : D.fns.map (fun f => He.fnW K f.at_) = D.fns.map fun f => f.d.val := congrArg (fun z : AlM => z.2) c
  obtain ⟨k1, k2⟩ := He.ba c1
  have hd : ∀ base : PySem.Heap, K.In base → base.Ns mainGlobals mg → Hd ⟨P, w, K, mg, base, D.cad K⟩ D.tb D.fn (D.ad K) (D.fdt K) := fun base hK hN => Dt.hd hK hN k1 (fun f hf => allP k2 hf) (map_all c2) hs hb hl
  have efa : fa = D.ad K i := by
    obtain ⟨k0, _⟩ := He.ba k1
    obtain ⟨k0, _⟩ := He.ba k0
    obtain ⟨k0, _⟩ := He.ba k0
    obtain ⟨k0, _⟩ := He.ba k0
    obtain ⟨k0, _⟩ := He.ba k0
    obtain ⟨k0, _⟩ := He.ba k0
    obtain ⟨k0, _⟩ := He.ba k0
    obtain ⟨k0, _⟩ := He.ba k0
    have q := allP k0 hg
    have e := PySem.W.mg_of X G (He.eqO_ok (He.ba (show (He.eqO (PySem.W.nsIn K mainGlobals lw) (some (some (.ref (D.ad K i)))) && decide (i < D.fns.length)) = true from q)).1)
    rw [hfa] at e
    cases e
    rfl
  subst efa
  have hmem := List.mem_of_getElem? hi
  refine ⟨D.fdt K i, fun vs H Q E => ∀ base, spF ⟨P, w, K, mg, base, D.cad K⟩ f.ps.length (callF D.tb D.fn wf fuel d i) vs H Q E, fun s u => ?_, fun H a ns hn hO hS base => ?_, fun base hK hN => ?_⟩
  · have B := hb f hmem
    unfold FD.Bnd at B
    rw [hdf] at B
    have DO := (hd h X G).dfn i f.fn (by show D.fns[i]?.map FD.fn = _; rw [hi]; rfl)
    obtain ⟨x', qual, params, dvs, kws, F⟩ := DO.ex
    obtain ⟨fd, F2⟩ := He.DefD.funD (K := K) (d := f.d) (map_all c2 f hmem) (allP k2 hmem)
    have ea : D.ad K i = He.fAd K f.at_ := by unfold Dt.ad; rw [hi]
    have ef : D.fdt K i = fd := by
      obtain ⟨oc, od, dV, kV, doc, pm, an, cdv, ct, osl, _, lk, _⟩ := F2.ex
      unfold Dt.fdt
      rw [ea]
      have lk' : K.lookup (He.fAd K f.at_) = some ⟨oc, od, .func fd, osl⟩ := lk
      rw [lk']
    have F3 : FunD K f.d.name f.d.qual f.d.params f.d.body f.d.scope [] (f.d.kws K) (He.fAd K f.at_) fd := by
      have e2 : f.d.dvs K = [] := by show (dvsOf f.at_ 0 f.dfl).map _ = []; rw [hdf]; rfl
      rw [← e2]; exact F2
    have := FunD.bindsA (ps := f.ps) F3 B s [u] (by rw [hps]; rfl)
    rw [hps] at this
    rw [ef]
    exact this
  · obtain ⟨h', hc⟩ := main ns hn
    refine ⟨fun _ => 0, [], [.scr ns], ⟨fun i j hi => absurd hi (Nat.not_lt_zero _), fun i b c e => by simp at e⟩, ?_, by rw [hps]; rfl, ?_⟩
    · rw [VRs]
      refine ⟨_, [], rfl, ?_, by rw [VRs]⟩
      rw [VR]
      refine ⟨a, rfl, ?_⟩
      rcases hS with (hS | ⟨o, hS⟩) | hS
      · rcases hO a with e | ⟨o, xs, e⟩ <;> rw [hS] at e <;> cases e
      · exact .inl ⟨o, hS⟩
      · exact .inr hS
    · rw [hc]
      exact fun ρ' H' b st r' t' => t'.of_bl
  · have F := ((hd base hK hN).call (wf := wf) (fuel := fuel) d i f.fn (by show D.fns[i]?.map FD.fn = _; rw [hi]; rfl)).fn
    have F' : FnOk P w K mg base (L2.CX P w) (2 * d) (D.ad K i) (D.fdt K i) [x] (spF ⟨P, w, K, mg, base, D.cad K⟩ f.ps.length (callF D.tb D.fn wf fuel d i)) := by rw [← hps]; exact F
    exact F'.imp fun vs H Q E q => q base
end MP
end

section
/-! MP, part QC: reasoning about the evaluator. -/
set_option autoImplicit false
set_option linter.all false
namespace MP
open PySem L2

def Ok {α : Type} (r : Rs α) (Q : α → Heap → Prop) : Prop := match r with
  | .ok a h => Q a h
  | _ => False
theorem Ok.imp {α : Type} {r : Rs α} {Q Q' : α → Heap → Prop} (h : Ok r Q) (i : ∀ a h, Q a h → Q' a h) : Ok r Q' := by
  cases r with
  | ok a h' => exact i a h' h
  | ex c fs h' => exact h.elim
  | bad => exact h.elim
theorem Ok.ex {α : Type} {r : Rs α} {Q : α → Heap → Prop} (h : Ok r Q) : ∃ a h', r = .ok a h' ∧ Q a h' := by
  cases r with
  | ok a h' => exact ⟨a, h', rfl, h⟩
  | ex c fs h' => exact h.elim
  | bad => exact h.elim
theorem ok_ok {α : Type} {a : α} {h : Heap} {Q : α → Heap → Prop} : Ok (.ok a h) Q = Q a h := rfl
theorem ok_bind {α β : Type} {r : Rs α} {f : α → Heap → Rs β} {Q : β → Heap → Prop} : Ok (r.bind f) Q = Ok r fun a h => Ok (f a h) Q := by cases r <;> rfl
theorem ok_opt {α : Type} {a : α} {h : Heap} {Q : α → Heap → Prop} : Ok (opt (some a) h) Q = Q a h := rfl
def OkS (r : SR) (nx : Env → Heap → Prop) (rt : Val → Heap → Prop) (bk ct : Env → Heap → Prop) : Prop := match r with
  | .nx e h => nx e h
  | .rt v h => rt v h
  | .bk e h => bk e h
  | .ct e h => ct e h
  | _ => False
theorem okS_lift {α : Type} {r : Rs α} {env : Env} {k : α → Heap → SR} {nx : Env → Heap → Prop} {rt : Val → Heap → Prop} {bk ct : Env → Heap → Prop} : OkS (liftS r env k) nx rt bk ct = Ok r fun a h => OkS (k a h) nx rt bk ct := by cases r <;> rfl
section
variable {env : Env} {h : Heap} {Q : Val → Heap → Prop} {QB : Bool → Heap → Prop} {nx : Env → Heap → Prop} {rt : Val → Heap → Prop} {bk ct : Env → Heap → Prop}
theorem k_seq {f1 f2 : Fs} : OkS (sSeq f1 f2 env h) nx rt bk ct = OkS (f1 env h) (fun e h => OkS (f2 e h) nx rt bk ct) rt bk ct := by
  show OkS ((f1 env h).andThen f2) nx rt bk ct = _
  cases f1 env h <;> rfl
theorem k_nx : OkS (sNx env h) nx rt bk ct = nx env h := rfl
theorem k_bk : OkS (sBk env h) nx rt bk ct = bk env h := rfl
theorem k_ct : OkS (sCt env h) nx rt bk ct = ct env h := rfl
theorem k_ret {f : Fe} : OkS (sRet f env h) nx rt bk ct = Ok (f env h) rt := by
  show OkS (liftS (f env h) env fun v h1 => .rt v h1) nx rt bk ct = _
  rw [okS_lift]; rfl
theorem k_expr {f : Fe} : OkS (sExpr f env h) nx rt bk ct = Ok (f env h) fun _ h1 => nx env h1 := by
  show OkS (liftS (f env h) env fun _ h1 => .nx env h1) nx rt bk ct = _
  rw [okS_lift]; rfl
theorem k_if {c : Ft} {a b : Fs} : OkS (sIf c a b env h) nx rt bk ct = Ok (c env h) fun k h1 => if k then OkS (a env h1) nx rt bk ct else OkS (b env h1) nx rt bk ct := by
  show OkS (liftS (c env h) env fun k h1 => if k then a env h1 else b env h1) nx rt bk ct = _
  rw [okS_lift]
  cases c env h with
  | ok k h1 => cases k <;> rfl
  | _ => rfl
theorem k_asg {f : Fe} {i : Nat} : OkS (sAsg f (gNm i) env h) nx rt bk ct = Ok (f env h) fun v h1 => nx (env.set i (some v)) h1 := by
  show OkS (liftS (f env h) env fun v h1 => liftS (gNm i v env h1) env fun env2 h2 => .nx env2 h2) nx rt bk ct = _
  rw [okS_lift]; rfl
theorem k_setE {f : Fe} {i : Nat} : OkS (sSetE i f env h) nx rt bk ct = Ok (f env h) fun v h1 => nx (env.set i (some v)) h1 := by
  show OkS (liftS (f env h) env fun v h1 => .nx (env.set i (some v)) h1) nx rt bk ct = _
  rw [okS_lift]; rfl
theorem k_asg2 {f : Fe} {i j : Nat} : OkS (sAsg f (gTp 2 (gsCons (gNm i) (gsCons (gNm j) gsNil))) env h) nx rt bk ct = Ok (f env h) fun v h1 => ∃ x y, v = .tup [x, y] ∧ nx ((env.set i (some x)).set j (some y)) h1 := by
  show OkS (liftS (f env h) env fun v h1 => liftS (gTp 2 (gsCons (gNm i) (gsCons (gNm j) gsNil)) v env h1) env fun env2 h2 => .nx env2 h2) nx rt bk ct = _
  rw [okS_lift]
  cases f env h with
  | ok v h1 =>
    show OkS (liftS (gTp 2 (gsCons (gNm i) (gsCons (gNm j) gsNil)) v env h1) env fun env2 h2 => .nx env2 h2) nx rt bk ct = ∃ x y, v = .tup [x, y] ∧ _
    rw [okS_lift]
    apply propext
    constructor
    · intro q
      match v, q with
      | .tup [x, y], q => exact ⟨x, y, rfl, q⟩
      | .tup [], q => exact q.elim
      | .tup [_], q => exact q.elim
      | .tup (_ :: _ :: _ :: r), q =>
        exfalso
        unfold gTp at q
        simp at q
        exact q
      | .non, q => exact q.elim
      | .bl _, q => exact q.elim
      | .int _, q => exact q.elim
      | .str _, q => exact q.elim
      | .ref _, q => exact q.elim
      | .cls _, q => exact q.elim
      | .ty _, q => exact q.elim
      | .scr _, q => exact q.elim
    · rintro ⟨x, y, rfl, q⟩
      exact q
  | _ => rfl
theorem k_par2 {fs : Fa} {i j : Nat} : OkS (sPar2 i j fs env h) nx rt bk ct = Ok (fs env h) fun vs h1 => ∃ v w, vs = [v, w] ∧ nx ((env.set i (some v)).set j (some w)) h1 := by
  unfold sPar2
  rw [okS_lift]
  cases fs env h with
  | ok vs h1 =>
    show OkS (match vs with | [v, w] => _ | _ => _) nx rt bk ct = ∃ v w, vs = [v, w] ∧ _
    apply propext
    constructor
    · intro q
      match vs, q with
      | [v, w], q => exact ⟨v, w, rfl, q⟩
      | [], q => exact q.elim
      | [_], q => exact q.elim
      | _ :: _ :: _ :: _, q => exact q.elim
    · rintro ⟨v, w, rfl, q⟩
      exact q
  | _ => rfl
theorem k_var {i : Nat} : Ok (xVar i env h) Q = Ok (opt (env[i]?.join) h) Q := rfl
theorem k_lit {v : Val} : Ok (xLit v env h) Q = Q v h := rfl
theorem k_bin {fo : Val → Val → Heap → Rs Val} {fa fb : Fe} : Ok (xBin fo fa fb env h) Q = Ok (fa env h) fun x h1 => Ok (fb env h1) fun y h2 => Ok (fo x y h2) Q := by
  show Ok ((fa env h).bind _) Q = _
  simp only [ok_bind]
theorem k_then {f : Fe} {k : Val → Heap → Rs Val} : Ok (xThen f k env h) Q = Ok (f env h) fun v h1 => Ok (k v h1) Q := by
  show Ok ((f env h).bind _) Q = _
  simp only [ok_bind]
theorem k_bf {fs : Fa} {fo : List Val → Heap → Rs Val} : Ok (xBf fs fo env h) Q = Ok (fs env h) fun vs h1 => Ok (fo vs h1) Q := by
  show Ok ((fs env h).bind _) Q = _
  simp only [ok_bind]
theorem k_nil {Q : List Val → Heap → Prop} : Ok (aNil env h) Q = Q [] h := rfl
theorem k_cons {f : Fe} {fs : Fa} {Q : List Val → Heap → Prop} : Ok (eCons f fs env h) Q = Ok (f env h) fun v h1 => Ok (fs env h1) fun vs h2 => Q (v :: vs) h2 := by
  show Ok ((f env h).bind _) Q = _
  simp only [ok_bind, ok_ok]
theorem k_f1 {f : Val → Heap → Rs Val} {v : Val} : Ok (f1 f [v] h) Q = Ok (f v h) Q := rfl
theorem k_new {b : B} : Ok (xNew b env h) Q = Q (.ref h.length) (h ++ [(false, b)]) := rfl
theorem k_al {b : B} : Ok (al h b) Q = Q (.ref h.length) (h ++ [(false, b)]) := rfl
theorem k_tup {fs : Fa} : Ok (eTup fs env h) Q = Ok (fs env h) fun vs h1 => (vs.length ≤ lim ∧ vs ≠ []) ∧ Q (.tup vs) h1 := by
  show Ok ((fs env h).bind _) Q = _
  rw [ok_bind]
  cases fs env h with
  | ok vs h1 =>
    show Ok (if _ then _ else _) Q = _
    by_cases hc : vs.length ≤ lim ∧ vs ≠ []
    · rw [if_pos hc]; simp only [ok_ok, hc, true_and]; simp [hc]
    · rw [if_neg hc]; apply propext; exact ⟨fun q => q.elim, fun q => absurd q.1 hc⟩
  | _ => rfl
theorem k_lst {fs : Fa} : Ok (eLst fs env h) Q = Ok (fs env h) fun vs h1 => vs.length ≤ lim ∧ Q (.ref h1.length) (h1 ++ [(false, .lst vs)]) := by
  show Ok ((fs env h).bind _) Q = _
  rw [ok_bind]
  cases fs env h with
  | ok vs h1 =>
    show Ok (if _ then _ else _) Q = _
    by_cases hc : vs.length ≤ lim
    · rw [if_pos hc]; apply propext; exact ⟨fun q => ⟨hc, q⟩, fun q => q.2⟩
    · rw [if_neg hc]; apply propext; exact ⟨fun q => q.elim, fun q => absurd q.1 hc⟩
  | _ => rfl
theorem k_call {np : Nat} {c : List Val → Heap → Rs Val} {dv : List Val} {fs : Fa} : Ok (eCall np c dv fs env h) Q = Ok (fs env h) fun vs h1 => (vs ++ dv).length = np ∧ Ok (c (vs ++ dv) h1) Q := by
  show Ok ((fs env h).bind _) Q = _
  rw [ok_bind]
  cases fs env h with
  | ok vs h1 =>
    show Ok (if _ then _ else _) Q = _
    by_cases hc : (vs ++ dv).length = np
    · rw [if_pos hc]; apply propext; exact ⟨fun q => ⟨hc, q⟩, fun q => q.2⟩
    · rw [if_neg hc]; apply propext; exact ⟨fun q => q.elim, fun q => absurd q.1 hc⟩
  | _ => rfl
end
end MP
end

section
/-! MP, part QD: reasoning about the evaluator, more. -/
set_option autoImplicit false
set_option linter.all false
namespace MP
open PySem L2
theorem ok_congr {α β : Type} {r : Rs α} {f : α → Heap → Rs β} {Q : β → Heap → Prop} {R : α → Heap → Prop} (h : ∀ a h, Ok (f a h) Q = R a h) : Ok (r.bind f) Q = Ok r R := by
  rw [ok_bind]
  congr 1
  funext a h'
  exact h a h'
theorem ok_ite {α : Type} {c : Prop} [Decidable c] {a b : Rs α} {Q : α → Heap → Prop} : Ok (if c then a else b) Q = if c then Ok a Q else Ok b Q := by split <;> rfl
theorem ok_guard {α : Type} {c : Prop} [Decidable c] {a : Rs α} {Q : α → Heap → Prop} : Ok (if c then a else .bad) Q = (c ∧ Ok a Q) := by
  split
  · rename_i h; simp [h]
  · rename_i h; simp [h, Ok]
section
variable {env : Env} {h : Heap} {Q : Val → Heap → Prop} {QB : Bool → Heap → Prop} {nx : Env → Heap → Prop} {rt : Val → Heap → Prop} {bk ct : Env → Heap → Prop}
/-- what follows a truth -/
def Tr (v : Val) (h : Heap) (a b : Prop) : Prop := match truth v h with
  | some true => a
  | some false => b
  | none => False
theorem k_and {fa fb : Fe} : Ok (eAnd fa fb env h) Q = Ok (fa env h) fun v h1 => Tr v h1 (Ok (fb env h1) Q) (Q v h1) := by
  refine ok_congr fun v h1 => ?_
  unfold Tr
  cases truth v h1 with
  | none => rfl
  | some b => cases b <;> rfl
theorem k_or {fa fb : Fe} : Ok (eOr fa fb env h) Q = Ok (fa env h) fun v h1 => Tr v h1 (Q v h1) (Ok (fb env h1) Q) := by
  refine ok_congr fun v h1 => ?_
  unfold Tr
  cases truth v h1 with
  | none => rfl
  | some b => cases b <;> rfl
theorem k_not {fa : Fe} : Ok (eNot fa env h) Q = Ok (fa env h) fun v h1 => Tr v h1 (Q (.bl false) h1) (Q (.bl true) h1) := by
  refine ok_congr fun v h1 => ?_
  unfold Tr
  cases truth v h1 with
  | none => rfl
  | some b => cases b <;> rfl
theorem k_ifx {c : Ft} {a b : Fe} : Ok (eIf c a b env h) Q = Ok (c env h) fun k h1 => if k then Ok (a env h1) Q else Ok (b env h1) Q := by
  refine ok_congr fun k h1 => ?_
  cases k <;> rfl
theorem k_tru {f : Fe} : Ok (eTru f env h) QB = Ok (f env h) fun v h1 => Tr v h1 (QB true h1) (QB false h1) := by
  refine ok_congr fun v h1 => ?_
  unfold Tr
  cases truth v h1 with
  | none => rfl
  | some b => cases b <;> rfl
def Bl (v : Val) (P : Bool → Prop) : Prop := match v with
  | .bl b => P b
  | _ => False
theorem ok_eBl {r : Rs Val} : Ok (eBl r) QB = Ok r fun v h1 => Bl v fun b => QB b h1 := by
  refine ok_congr fun v h1 => ?_
  cases v <;> rfl
theorem k_tcmp {fo : Val → Val → Heap → Rs Val} {fa fb : Fe} : Ok (tCmp fo fa fb env h) QB = Ok (fa env h) fun x h1 => Ok (fb env h1) fun y h2 => Ok (fo x y h2) fun v h3 => Bl v fun b => QB b h3 := by
  show Ok (eBl _) QB = _
  rw [ok_eBl]
  simp only [ok_bind]
theorem k_tand {fa fb : Ft} : Ok (tAndF fa fb env h) QB = Ok (fa env h) fun b h1 => if b then Ok (fb env h1) QB else QB false h1 := by
  refine ok_congr fun b h1 => ?_
  cases b <;> rfl
theorem k_tor {fa fb : Ft} : Ok (tOrF fa fb env h) QB = Ok (fa env h) fun b h1 => if b then QB true h1 else Ok (fb env h1) QB := by
  refine ok_congr fun b h1 => ?_
  cases b <;> rfl
theorem k_tnot {fa : Ft} : Ok (tNotF fa env h) QB = Ok (fa env h) fun b h1 => QB (!b) h1 := ok_congr fun b h1 => rfl
theorem k_chain {fo fo' : Val → Val → Heap → Rs Val} {fa fb fc : Fe} : Ok (eChain fo fo' fa fb fc env h) Q = Ok (fa env h) fun x h1 => Ok (fb env h1) fun y h2 => Ok (fo x y h2) fun z h3 => Bl z fun b => if b then Ok (fc env h3) fun w h4 => Ok (fo' y w h4) Q else Q (.bl false) h3 := by
  refine ok_congr fun x h1 => ok_congr fun y h2 => ok_congr fun z h3 => ?_
  cases z <;> first
    | rfl
    | (rename_i b; cases b <;> first | rfl | (show Ok ((fc env h3).bind _) Q = _; rw [ok_bind]; rfl))
theorem k_tchn {fo fo' : Val → Val → Heap → Rs Val} {fa fb fc : Fe} : Ok (tChn fo fo' fa fb fc env h) QB = Ok (fa env h) fun x h1 => Ok (fb env h1) fun y h2 => Ok (fo x y h2) fun z h3 => Bl z fun b => if b then Ok (fc env h3) fun w h4 => Ok (fo' y w h4) fun v h5 => Bl v fun b => QB b h5 else QB false h3 := by
  show Ok (eBl (eChain fo fo' fa fb fc env h)) QB = _
  rw [ok_eBl, k_chain]
  rfl
theorem k_ttrue : Ok (tTrue env h) QB = QB true h := rfl
/-- an instance -/
def In (v : Val) (h : Heap) (P : Nat → List (Str × Val) → Prop) : Prop := match insOf v h with
  | some (c, fl) => P c fl
  | none => False
theorem k_fld {okc : Nat → Bool} {f : Str} {fo : Fe} : Ok (eFld okc f fo env h) Q = Ok (fo env h) fun v h1 => In v h1 fun c fl => okc c = true ∧ Ok (opt (fl.lookup f) h1) Q := by
  refine ok_congr fun v h1 => ?_
  unfold In
  cases insOf v h1 with
  | none => rfl
  | some p => exact ok_guard
theorem k_make {c np : Nat} {cf : List Val → Heap → Rs Val} {dv : List Val} {fs : Fa} : Ok (eMake c np cf dv fs env h) Q = Ok (fs env h) fun vs h1 => (Val.ref h1.length :: (vs ++ dv)).length = np ∧ Ok (cf (.ref h1.length :: (vs ++ dv)) (mk0 c h1)) fun v h2 => v = .non ∧ Q (.ref h1.length) h2 := by
  refine ok_congr fun vs h1 => ?_
  rw [ok_guard]
  congr 1
  refine ok_congr fun v h2 => ?_
  cases v <;> simp [Ok]
theorem k_meth {tab : Nat → Option MI} {m : Str} {fo : Fe} {fs : Fa} : Ok (eMeth tab m fo fs env h) Q = Ok (fo env h) fun v h1 => In v h1 fun c fl => ∃ i, tab c = some i ∧ fl.lookup m = none ∧ Ok (fs env h1) fun vs h2 => (v :: (vs ++ i.dv)).length = i.np ∧ Ok (i.cf (v :: (vs ++ i.dv)) h2) Q := by
  refine ok_congr fun v h1 => ?_
  unfold In
  cases insOf v h1 with
  | none => rfl
  | some p =>
    obtain ⟨c, fl⟩ := p
    apply propext
    constructor
    · intro q
      have q' : Ok (match tab c, fl.lookup m with
        | some i, none => (fs env h1).bind fun vs h2 => if (v :: (vs ++ i.dv)).length = i.np then i.cf (v :: (vs ++ i.dv)) h2 else .bad
        | _, _ => .bad) Q := q
      cases z1 : tab c with
      | none => rw [z1] at q'; exact q'.elim
      | some i =>
        cases z2 : fl.lookup m with
        | some w => rw [z1, z2] at q'; exact q'.elim
        | none =>
          rw [z1, z2] at q'
          refine ⟨i, z1, z2, ?_⟩
          rw [ok_bind] at q'
          exact q'.imp fun vs h2 q2 => by rw [ok_guard] at q2; exact q2
    · rintro ⟨i, z1, z2, q⟩
      show Ok (match tab c, fl.lookup m with
        | some i, none => (fs env h1).bind fun vs h2 => if (v :: (vs ++ i.dv)).length = i.np then i.cf (v :: (vs ++ i.dv)) h2 else .bad
        | _, _ => .bad) Q
      rw [z1, z2]
      dsimp only
      rw [ok_bind]
      exact q.imp fun vs h2 q2 => by rw [ok_guard]; exact q2
theorem k_bm {tab : BK → Option Fm} {fo : Fe} {fs : Fa} : Ok (eBm tab fo fs env h) Q = Ok (fo env h) fun v h1 => ∃ k f, bkOf v h1 = some k ∧ tab k = some f ∧ Ok (fs env h1) fun vs h2 => Ok (f v vs h2) Q := by
  refine ok_congr fun v h1 => ?_
  apply propext
  constructor
  · intro q
    cases z : bkOf v h1 with
    | none => rw [z] at q; exact q.elim
    | some k =>
      rw [z] at q
      cases z2 : tab k with
      | none => simp only [z2] at q; exact q.elim
      | some f =>
        simp only [z2] at q
        rw [ok_bind] at q
        exact ⟨k, f, rfl, z2, q⟩
  · rintro ⟨k, f, z, z2, q⟩
    rw [z]
    simp only [z2]
    rw [ok_bind]
    exact q
theorem k_lc {fi : Fi} {ft : Fg} {fc : Ft} {fe : Fe} {own : List Nat} : Ok (eLc fi ft fc fe own env h) Q = Ok (fi env h) fun src h1 => src.xs.length ≤ lim ∧ Ok (lcGo (lcTurn ft fc fe (wipeE env own)) src.xs [] (lockH h1 src.lk)) fun ys h2 => Q (.ref (unlockH h1 h2 src.lk).length) (unlockH h1 h2 src.lk ++ [(false, .lst ys)]) := by
  refine ok_congr fun src h1 => ?_
  rw [ok_guard]
  congr 1
  exact ok_congr fun ys h2 => rfl
theorem k_dc {fi : Fi} {ft : Fg} {fc : Ft} {fk fe : Fe} {own : List Nat} : Ok (eDc fi ft fc fk fe own env h) Q = Ok (fi env h) fun src h1 => src.xs.length ≤ lim ∧ Ok (dcGo (dcTurn ft fc fk fe (wipeE env own)) src.xs [] (lockH h1 src.lk)) fun ys h2 => Q (.ref (unlockH h1 h2 src.lk).length) (unlockH h1 h2 src.lk ++ [(false, .dct ys)]) := by
  refine ok_congr fun src h1 => ?_
  rw [ok_guard]
  congr 1
  exact ok_congr fun ys h2 => rfl
theorem k_turn {i : Nat} {fc : Ft} {fe : Fe} {v : Val} {QO : Option Val → Heap → Prop} : Ok (lcTurn (gNm i) fc fe env v h) QO = Ok (fc (env.set i (some v)) h) fun b h3 => if b then Ok (fe (env.set i (some v)) h3) fun y h4 => QO (some y) h4 else QO none h3 := by
  show Ok ((fc (env.set i (some v)) h).bind _) QO = _
  refine ok_congr fun b h3 => ?_
  cases b
  · rfl
  · show Ok ((fe (env.set i (some v)) h3).bind _) QO = _
    exact ok_congr fun y h4 => rfl
theorem k_dturn {i : Nat} {fc : Ft} {fk fe : Fe} {v : Val} {QO : Option (Key × Val) → Heap → Prop} : Ok (dcTurn (gNm i) fc fk fe env v h) QO = Ok (fc (env.set i (some v)) h) fun b h3 => if b then Ok (fk (env.set i (some v)) h3) fun k h4 => Ok (fe (env.set i (some v)) h4) fun y h5 => ∃ k', keyV k = some k' ∧ QO (some (k', y)) h5 else QO none h3 := by
  show Ok ((fc (env.set i (some v)) h).bind _) QO = _
  refine ok_congr fun b h3 => ?_
  cases b
  · rfl
  · show Ok ((fk (env.set i (some v)) h3).bind _) QO = _
    refine ok_congr fun k h4 => ok_congr fun y h5 => ?_
    cases keyV k <;> simp [Ok]
/-- a list comprehension by an invariant -/
theorem lc_inv {f : Val → Heap → Rs (Option Val)} (I : List Val → List Val → Heap → Prop) : ∀ (xs acc : List Val) (h : Heap), I xs acc h →
    (∀ v r acc h, I (v :: r) acc h → Ok (f v h) fun o h' => match o with | some y => I r (acc ++ [y]) h' | none => I r acc h') → Ok (lcGo f xs acc h) fun ys h' => I [] ys h'
  | [], acc, h, i, _ => i
  | v :: r, acc, h, i, st => by
    have q := st v r acc h i
    unfold lcGo
    cases z : f v h with
    | ok o h' =>
      rw [z] at q
      cases o with
      | some y => exact lc_inv I r _ h' q st
      | none => exact lc_inv I r _ h' q st
    | ex c fs h' => rw [z] at q; exact q.elim
    | bad => rw [z] at q; exact q.elim
theorem dc_inv {f : Val → Heap → Rs (Option (Key × Val))} (I : List Val → List (Key × Val) → Heap → Prop) : ∀ (xs : List Val) (acc : List (Key × Val)) (h : Heap), I xs acc h →
    (∀ v r acc h, I (v :: r) acc h → Ok (f v h) fun o h' => match o with | some p => I r (setK acc p.1 p.2) h' | none => I r acc h') → Ok (dcGo f xs acc h) fun ys h' => I [] ys h'
  | [], acc, h, i, _ => i
  | v :: r, acc, h, i, st => by
    have q := st v r acc h i
    unfold dcGo
    cases z : f v h with
    | ok o h' =>
      rw [z] at q
      cases o with
      | some y => exact dc_inv I r _ h' q st
      | none => exact dc_inv I r _ h' q st
    | ex c fs h' => rw [z] at q; exact q.elim
    | bad => rw [z] at q; exact q.elim
/-- a loop by an invariant -/
theorem for_inv {f : Val → Env → Heap → SR} {bk' ct' : Env → Heap → Prop} (I : List Val → Env → Heap → Prop) : ∀ (xs : List Val) (env : Env) (h : Heap), I xs env h →
    (∀ v r env h, I (v :: r) env h → OkS (f v env h) (fun e h => I r e h) rt (fun e h => nx e h) fun e h => I r e h) → (∀ env h, I [] env h → nx env h) → OkS (forGo f xs env h) nx rt bk' ct'
  | [], env, h, i, _, fin => fin env h i
  | v :: r, env, h, i, st, fin => by
    have q := st v r env h i
    unfold forGo
    cases z : f v env h with
    | nx e h' => rw [z] at q; exact for_inv I r e h' q st fin
    | ct e h' => rw [z] at q; exact for_inv I r e h' q st fin
    | bk e h' => rw [z] at q; exact q
    | rt w h' => rw [z] at q; exact q
    | ex e c fs h' => rw [z] at q; exact q.elim
    | bad => rw [z] at q; exact q.elim
theorem okS_unl {h0 : Heap} {lk : Option Nat} {r : SR} : OkS (unlS h0 lk r) nx rt bk ct = OkS r (fun e h => nx e (unlockH h0 h lk)) (fun v h => rt v (unlockH h0 h lk)) (fun e h => bk e (unlockH h0 h lk)) fun e h => ct e (unlockH h0 h lk) := by cases r <;> rfl
theorem k_for {fi : Fi} {ft : Fg} {fb : Fs} : OkS (sFor fi ft fb env h) nx rt bk ct = Ok (fi env h) fun src h1 => OkS (forGo (fun v env h => liftS (ft v env h) env fb) src.xs env (lockH h1 src.lk)) (fun e h => nx e (unlockH h1 h src.lk)) (fun v h => rt v (unlockH h1 h src.lk)) (fun e h => bk e (unlockH h1 h src.lk)) fun e h => ct e (unlockH h1 h src.lk) := by
  show OkS (liftS (fi env h) env _) nx rt bk ct = _
  rw [okS_lift]
  simp only [okS_unl]
theorem k_ival {f : Fe} {QS : Src → Heap → Prop} : Ok (iVal f env h) QS = Ok (f env h) fun v h1 => Ok (srcV v h1) QS := ok_congr fun v h1 => rfl
theorem k_iitems {f : Fe} {QS : Src → Heap → Prop} : Ok (iItems f env h) QS = Ok (f env h) fun v h1 => Ok (srcI v h1) QS := ok_congr fun v h1 => rfl
theorem k_irng {fs : Fa} {QS : Src → Heap → Prop} : Ok (iRng1 fs env h) QS = Ok (fs env h) fun vs h1 => ∃ j, vs = [.int j] ∧ (-(2 ^ 62) ≤ j ∧ j < 2 ^ 62) ∧ QS ⟨rngV 0 j.toNat, none⟩ h1 := by
  refine ok_congr fun vs h1 => ?_
  apply propext
  constructor
  · intro q
    match vs, q with
    | [.int j], q =>
      have q : Ok (if -(2 ^ 62) ≤ j ∧ j < 2 ^ 62 then Rs.ok (⟨rngV 0 j.toNat, none⟩ : Src) h1 else .bad) QS := q
      rw [ok_guard] at q
      exact ⟨j, rfl, q.1, q.2⟩
    | [], q => exact q.elim
    | [.non], q => exact q.elim
    | [.bl _], q => exact q.elim
    | [.str _], q => exact q.elim
    | [.tup _], q => exact q.elim
    | [.ref _], q => exact q.elim
    | [.cls _], q => exact q.elim
    | [.ty _], q => exact q.elim
    | [.scr _], q => exact q.elim
    | a :: b :: r, q => cases a <;> exact q.elim
  · rintro ⟨j, rfl, hj, q⟩
    show Ok (if _ then _ else _) QS
    rw [if_pos hj]
    exact q
end
end MP
end

section
/-! MP, part QE: heaps, the law's source and draws. -/
set_option autoImplicit false
set_option linter.all false
namespace MP
open PySem L2
section
variable {env : Env} {h : Heap} {Q : Val → Heap → Prop} {nx : Env → Heap → Prop} {rt : Val → Heap → Prop} {bk ct : Env → Heap → Prop}
theorem k_sub {fo fi fv : Fe} : OkS (sSubF fo fi fv env h) nx rt bk ct = Ok (fv env h) fun v h1 => Ok (fo env h1) fun o h2 => Ok (fi env h2) fun i h3 => ∃ h4, putAt o i v h3 = some h4 ∧ nx env h4 := by
  unfold sSubF
  simp only [okS_lift]
  congr 1; funext v h1; congr 1; funext o h2; congr 1; funext i h3
  cases putAt o i v h3 <;> simp [OkS]
theorem k_setF {okc : Nat → Bool} {f : Str} {fo fv : Fe} : OkS (sFldF okc f fo fv env h) nx rt bk ct = Ok (fv env h) fun v h1 => Ok (fo env h1) fun o h2 => ∃ a c fs, o = .ref a ∧ h2[a]? = some (false, .ins c fs) ∧ okc c = true ∧ fs.length < 100 ∧ nx env (h2.set a (false, .ins c (setF f v fs))) := by
  unfold sFldF
  simp only [okS_lift]
  congr 1; funext v h1; congr 1; funext o h2
  apply propext
  constructor
  · intro q
    cases o with
    | ref a =>
      dsimp only at q
      split at q
      · rename_i c fs z
        split at q
        · rename_i hc
          rw [Bool.and_eq_true, decide_eq_true_eq] at hc
          exact ⟨a, c, fs, rfl, z, hc.1, hc.2, q⟩
        · exact q.elim
      · exact q.elim
    | _ => exact q.elim
  · rintro ⟨a, c, fs, rfl, z, h1, h2, q⟩
    dsimp only
    rw [z]
    dsimp only
    rw [if_pos (by rw [Bool.and_eq_true, decide_eq_true_eq]; exact ⟨h1, h2⟩)]
    exact q
end
theorem rd_of {h : Heap} {a : Nat} {b : Bool} {c : B} (e : h[a]? = some (b, c)) : rd h a = some c := by unfold rd; rw [e]; rfl
theorem set_at {h : Heap} {a : Nat} {c c' : Cell} (e : h[a]? = some c) : (h.set a c')[a]? = some c' := List.getElem?_set_self (lt_of_get e)
theorem ix_list {h : Heap} {a : Nat} {b : Bool} {xs : List Val} {i : Nat} {v : Val} {Q : Val → Heap → Prop} (e : h[a]? = some (b, .lst xs)) (ei : atI xs (i : Int) = some v) : Ok (ixV (.ref a) (.int (i : Int)) h) Q = Q v h := by
  unfold ixV
  dsimp only
  rw [rd_of e]
  dsimp only
  rw [ei]
  rfl
def drawS (tb : Tb) (cf : Cf) : Fs :=
  sSeq (sSubF (xVar 0) (xLit (.int 2)) (xBin (ownBin (obF tb cf .Add) (bop .add)) (xBin ixV (xVar 0) (xLit (.int 2))) (xLit (.int 1)))) (sSeq (sIf (tCmp (cmpF tb cf .Gt) (xBin ixV (xVar 0) (xLit (.int 0))) (xLit (.int 1))) (sSeq (sAsg (xBin (bop .mod) (xBf (eCons (xBin ixV (xVar 0) (xLit (.int 0))) (aNil)) (MP.f1 intV)) (xVar 1)) (gNm 2)) (sSeq (sSubF (xVar 0) (xLit (.int 0)) (xBin (bop .fdiv) (xBin ixV (xVar 0) (xLit (.int 0))) (xVar 1))) (sSeq (sRet (xVar 2)) (sNx)))) (sNx)) (sSeq (sAsg (xBin (bop .mod) (xBin (bop .pow) (xBin (ownBin (obF tb cf .Add) (bop .add)) (xBin ixV (xVar 0) (xLit (.int 1))) (xBin (ownBin (obF tb cf .Mult) (bop .mul)) (xLit (.int 7919)) (xBin ixV (xVar 0) (xLit (.int 2))))) (xLit (.int 5))) (xLit (.int 2147483629))) (gNm 3)) (sSeq (sRet (xBin (bop .mod) (xBin (bop .mod) (xBin (bop .pow) (xBin (ownBin (obF tb cf .Add) (bop .add)) (xBin (ownBin (obF tb cf .Add) (bop .add)) (xBin (ownBin (obF tb cf .Mult) (bop .mul)) (xVar 3) (xLit (.int 48271))) (xBin (ownBin (obF tb cf .Mult) (bop .mul)) (xBin (ownBin (obF tb cf .Mult) (bop .mul)) (xLit (.int 16807)) (xBin ixV (xVar 0) (xLit (.int 2)))) (xBin ixV (xVar 0) (xLit (.int 2))))) (xLit (.int 11))) (xLit (.int 3))) (xLit (.int 1000000007))) (xVar 1))) (sNx))))
theorem own_int {ob : Nat → Option MI} {base : Val → Val → Heap → Rs Val} {i : Int} {y : Val} {h : Heap} : ownBin ob base (.int i) y h = base (.int i) y h := rfl
theorem own_str {ob : Nat → Option MI} {base : Val → Val → Heap → Rs Val} {i : Str} {y : Val} {h : Heap} : ownBin ob base (.str i) y h = base (.str i) y h := rfl
def srcL (g sd c : Int) : List Val := [.int g, .int sd, .int c]
section
variable {h : Heap} {s : Nat} {b : Bool} {g sd c v : Int}
theorem src0 (e : h[s]? = some (b, .lst (srcL g sd c))) : ixV (.ref s) (.int 0) h = .ok (.int g) h := by
  unfold ixV; dsimp only; rw [rd_of e]; rfl
theorem src1 (e : h[s]? = some (b, .lst (srcL g sd c))) : ixV (.ref s) (.int 1) h = .ok (.int sd) h := by
  unfold ixV; dsimp only; rw [rd_of e]; rfl
theorem src2 (e : h[s]? = some (b, .lst (srcL g sd c))) : ixV (.ref s) (.int 2) h = .ok (.int c) h := by
  unfold ixV; dsimp only; rw [rd_of e]; rfl
theorem srcP2 (e : h[s]? = some (false, .lst (srcL g sd c))) : putAt (.ref s) (.int 2) (.int v) h = some (h.set s (false, .lst (srcL g sd v))) := by
  unfold putAt; dsimp only; rw [e]; rfl
theorem srcP0 (e : h[s]? = some (false, .lst (srcL g sd c))) : putAt (.ref s) (.int 0) (.int v) h = some (h.set s (false, .lst (srcL v sd c))) := by
  unfold putAt; dsimp only; rw [e]; rfl
end
theorem b_add {i j : Int} {h : Heap} : bop .add (.int i) (.int j) h = .ok (.int (i + j)) h := rfl
theorem b_sub {i j : Int} {h : Heap} : bop .sub (.int i) (.int j) h = .ok (.int (i - j)) h := rfl
theorem b_mul {i j : Int} {h : Heap} (k : mulOk i j = true) : bop .mul (.int i) (.int j) h = .ok (.int (i * j)) h := by
  show (if mulOk i j = true then _ else _) = _
  rw [if_pos k]
theorem b_mod {i j : Int} {h : Heap} (k : 0 < j) : bop .mod (.int i) (.int j) h = .ok (.int (i % j)) h := by
  show (if decide (0 < j) = true then _ else _) = _
  rw [if_pos (decide_eq_true k)]
theorem b_fdiv {i j : Int} {h : Heap} (k : 0 < j) (k2 : j < 1073741824) : bop .fdiv (.int i) (.int j) h = .ok (.int (i / j)) h := by
  show (if (decide (0 < j) && decide (j < 1073741824)) = true then _ else _) = _
  rw [if_pos (by rw [decide_eq_true k, decide_eq_true k2]; rfl)]
theorem b_pow {i j : Int} {h : Heap} (k : powOk i j = true) : bop .pow (.int i) (.int j) h = .ok (.int (i ^ j.toNat)) h := by
  show (if powOk i j = true then _ else _) = _
  rw [if_pos k]
theorem powOk_of {i j : Int} (h1 : 0 ≤ i) (h2 : i < 18446744073709551616) (h3 : 0 ≤ j) (h4 : j ≤ 1000000) : powOk i j = true := by
  unfold powOk
  rw [decide_eq_true h3, decide_eq_true h4, decide_eq_true (by omega)]
  rfl
theorem mulOk_r {i j : Int} (h1 : 0 ≤ j) (h2 : j < 18446744073709551616) : mulOk i j = true := by
  unfold mulOk
  rw [Bool.or_eq_true]
  refine .inr ?_
  rw [decide_eq_true (by omega), decide_eq_true (by omega)]
  rfl
theorem c_gt {i j : Int} {h : Heap} {tb : Tb} {cf : Cf} : cmpF tb cf .Gt (.int i) (.int j) h = .ok (.bl (decide (j < i))) h := rfl
theorem c_ge {i j : Int} {h : Heap} {tb : Tb} {cf : Cf} : cmpF tb cf .GtE (.int i) (.int j) h = .ok (.bl (decide (j ≤ i))) h := rfl
theorem c_lt {i j : Int} {h : Heap} {tb : Tb} {cf : Cf} : cmpF tb cf .Lt (.int i) (.int j) h = .ok (.bl (decide (i < j))) h := rfl
theorem c_eqI {i j : Int} {h : Heap} {tb : Tb} {cf : Cf} : cmpF tb cf .Eq (.int i) (.int j) h = .ok (.bl (i == j)) h := by
  show Rs.ok (Val.bl ((i == j) != false)) h = _
  simp
theorem c_neI {i j : Int} {h : Heap} {tb : Tb} {cf : Cf} : cmpF tb cf .NotEq (.int i) (.int j) h = .ok (.bl (i != j)) h := by
  show Rs.ok (Val.bl ((i == j) != true)) h = _
  simp [bne]
theorem bl_bl {b : Bool} {P : Bool → Prop} : Bl (.bl b) P = P b := rfl
theorem draw_ok {tb : Tb} {cf : Cf} {h : Heap} {s : Nat} {g sd c m : Int} (hs : h[s]? = some (false, .lst (srcL g sd c))) (hm : 0 < m) (hm2 : m < 1073741824) (h1 : 0 ≤ sd) (h2 : sd < 2147483647) (h3 : 0 ≤ c) (h4 : c < 100000) {nx bk ct : Env → Heap → Prop} :
    OkS (drawS tb cf [some (.ref s), some (.int m), none, none] h) nx (fun v h' => ∃ d g', v = .int d ∧ 0 ≤ d ∧ d < m ∧ h' = h.set s (false, .lst (srcL g' sd (c + 1)))) bk ct := by
  have e1 : (h.set s (false, .lst (srcL g sd (c + 1))))[s]? = some (false, .lst (srcL g sd (c + 1))) := set_at hs
  unfold drawS
  simp -implicitDefEqProofs only [k_seq, k_sub, k_bin, k_var, k_lit, List.getElem?_cons_zero, List.getElem?_cons_succ, Option.join_some, ok_opt, src2 hs, ok_ok, own_int, b_add, srcP2 hs, Option.some.injEq, exists_eq_left']
  simp -implicitDefEqProofs only [k_if, k_tcmp, k_bin, k_var, k_lit, List.getElem?_cons_zero, List.getElem?_cons_succ, Option.join_some, ok_opt, ok_ok, c_gt, bl_bl]
  rw [src0 e1]
  simp -implicitDefEqProofs only [ok_ok, c_gt, bl_bl]
  by_cases hg : (1 : Int) < g
  · rw [decide_eq_true hg, if_pos rfl]
    simp -implicitDefEqProofs only [k_seq, k_asg, k_bin, k_bf, k_cons, k_nil, k_f1, k_var, k_lit, List.getElem?_cons_zero, List.getElem?_cons_succ, Option.join_some, ok_opt, src0 e1, ok_ok, intV, b_mod hm, k_sub, k_ret, List.set_cons_succ, List.set_cons_zero, b_fdiv hm hm2, srcP0 e1, Option.some.injEq, exists_eq_left']
    exact ⟨_, _, rfl, Int.emod_nonneg _ (by omega), Int.emod_lt_of_pos _ hm, by rw [List.set_set]⟩
  · rw [decide_eq_false hg]
    simp -implicitDefEqProofs only [Bool.false_eq_true, if_false, k_nx, k_seq, k_asg, k_bin, k_var, k_lit, List.getElem?_cons_zero, List.getElem?_cons_succ, Option.join_some, ok_opt, src1 e1, src2 e1, ok_ok, own_int, b_add, b_mul (mulOk_r (i := 7919) (j := c + 1) (by omega) (by omega)), b_pow (powOk_of (i := sd + 7919 * (c + 1)) (j := 5) (by omega) (by omega) (by omega) (by omega)), b_mod (i := (sd + 7919 * (c + 1)) ^ (5 : Int).toNat) (j := 2147483629) (by omega), k_ret, List.set_cons_succ, List.set_cons_zero]
    have p1 : 0 ≤ (sd + 7919 * (c + 1)) ^ (5 : Int).toNat % 2147483629 := Int.emod_nonneg _ (by omega)
    have p2 : (sd + 7919 * (c + 1)) ^ (5 : Int).toNat % 2147483629 < 2147483629 := Int.emod_lt_of_pos _ (by omega)
    generalize (sd + 7919 * (c + 1)) ^ (5 : Int).toNat % 2147483629 = mx at p1 p2
    have q1 : 0 ≤ 16807 * (c + 1) * (c + 1) := Int.mul_nonneg (by omega) (by omega)
    have q2 : 16807 * (c + 1) * (c + 1) ≤ 1680700000 * 100000 := Int.mul_le_mul (by omega) (by omega) (by omega) (by omega)
    simp -implicitDefEqProofs only [b_mul (mulOk_r (i := mx) (j := 48271) (by omega) (by omega)), b_mul (mulOk_r (i := 16807) (j := c + 1) (by omega) (by omega)), b_mul (mulOk_r (i := 16807 * (c + 1)) (j := c + 1) (by omega) (by omega)), src2 e1, ok_ok, own_int, b_add]
    generalize 16807 * (c + 1) * (c + 1) = cc at q1 q2
    simp -implicitDefEqProofs only [b_pow (powOk_of (i := mx * 48271 + cc + 11) (j := 3) (by omega) (by omega) (by omega) (by omega)), ok_ok]
    rw [b_mod (by omega)]
    simp -implicitDefEqProofs only [ok_ok]
    rw [b_mod hm]
    exact ⟨_, _, rfl, Int.emod_nonneg _ (by omega), Int.emod_lt_of_pos _ hm, rfl⟩
end MP
end

section
/-! MP, part QF: a law's end. -/
set_option autoImplicit false
set_option linter.all false
namespace MP
open PySem PySem.Spec PyProof.Rows L2
theorem walk_ofW {l : PySem.W.OpenLaw} {n k : Nat} {q : Program} {loose : List Str} {XP : (Str → Option Value) → PySem.Heap → Prop} {YP : World → PySem.Heap → Prop} {d : DefRec} {CX : World → CXT} {x : Str}
    (hn : l.most = some n) (hn2 : n ≤ sizeLine) (hdf : d.params.defaults = []) (hr : Room k callerA)
    (F : ∀ (w : World) (mg : Str → Option Value) (fa : Addr) (h : PySem.Heap), YP w h → h.Ns mainGlobals mg → mg d.name = some (.ref fa) →
      ∃ (K : PySem.W.Frag) (fd : FuncData) (sp : Sp), K.In h ∧ (∀ (s : Shared) (u : Value), BindsTo s fd ⟨[u], []⟩ [(x, u)]) ∧
        (∀ (H : Hp) (a : Addr) (ns : List Int), ns.length ≤ n → Only H → SqL K H a (ns.map V.int) → sp [.ref a] H (fun v _ => v = .bl true) fun _ _ _ => False) ∧
        ∀ base : PySem.Heap, K.In base → base.Ns mainGlobals mg → FnOk l.prog w K mg base (CX w) k fa fd [x] sp)
    (hCX : ∀ (w : World) (H : Hp) (s : Shared) (e : Value) (s' : Shared), CX w [] H s (fun _ _ _ => False) e s' → False) :
    PySem.W.WalkO q loose XP YP l.row.toRowW d [] (fun f vs => PySem.call f vs) := by
  refine Att.attach_call hn hdf fun w s₀ s₁ mg mb fa o pm cd doc a vs ns G Y ho hd hcd hmg hobj hints hlen hg => ?_
  obtain ⟨K, fd, sp, KX, hb, hsp, hF⟩ := F w mg fa _ Y G.T.g hmg
  exact law_call KX G.T.g G.T.b G.T.builtins G.T.nolimit hg hobj hints (Nat.le_trans hlen hn2) hr hF hb (fun H hO hS => hsp H a ns hlen hO hS) fun H e s' => hCX w H s₁ e s'
theorem noCX (P : Program) (w : World) (H : Hp) (s : Shared) (e : Value) (s' : Shared) (h : L2.CX P w [] H s (fun _ _ _ => False) e s') : False := by
  obtain ⟨a, B, H', cls, d, _, _, _, _, _, _, _, hE⟩ := h
  exact hE
end MP
end

section
/-! MP, part QG: the law's source. -/
set_option autoImplicit false
set_option linter.all false
namespace MP
open PySem L2
def sourceS (tb : Tb) (cf : Cf) : Fs :=
  sSeq (sAsg (eTup (eCons (xLit (.int 0)) (eCons (xLit (.int 17)) (aNil)))) (gTp 2 (gsCons (gNm 1) (gsCons (gNm 2) (gsNil))))) (sSeq (sFor (iVal (xVar 0)) (gNm 3) (sSeq (sIf (tAndF (tCmp (cmpF tb cf .Eq) (xVar 1) (xLit (.int 0))) (tCmp (cmpF tb cf .GtE) (xVar 3) (xBin (bop .pow) (xLit (.int 10)) (xLit (.int 18))))) (sSeq (sAsg (xVar 3) (gNm 1)) (sNx)) (sNx)) (sSeq (sAsg (xBin (bop .mod) (xBf (eCons (xBin (ownBin (obF tb cf .Add) (bop .add)) (xBin (ownBin (obF tb cf .Add) (bop .add)) (xBin (ownBin (obF tb cf .Mult) (bop .mul)) (xVar 2) (xLit (.int 31))) (xVar 3)) (xLit (.int 7))) (aNil)) (MP.f1 intV)) (xLit (.int 2147483647))) (gNm 2)) (sNx)))) (sSeq (sRet (eLst (eCons (xVar 1) (eCons (xVar 2) (eCons (xLit (.int 0)) (aNil)))))) (sNx)))
theorem k_intI {i : Int} {h : Heap} : intV (.int i) h = .ok (.int i) h := congrArg (fun x => x) rfl
theorem source_ok {tb : Tb} {cf : Cf} {ns : List Int} {h : Heap} {nx bk ct : Env → Heap → Prop} :
    OkS (sourceS tb cf [some (.scr ns), none, none, none] h) nx (fun v h' => ∃ g sd, v = .ref h.length ∧ 0 ≤ sd ∧ sd < 2147483647 ∧ h' = h ++ [(false, .lst (srcL g sd 0))]) bk ct := by
  unfold sourceS
  simp -implicitDefEqProofs only [k_seq, k_asg2, k_tup, k_cons, k_nil, k_lit, k_for, k_ival, k_var, List.set_cons_succ, List.set_cons_zero]
  refine ⟨⟨by decide, by simp⟩, _, _, rfl, ?_⟩
  simp -implicitDefEqProofs only [List.getElem?_cons_zero, Option.join_some, ok_opt, List.set_cons_succ, List.set_cons_zero]
  show OkS (forGo _ (ns.map Val.int) _ h) _ _ _ _
  refine for_inv (fun xs env h' => h' = h ∧ (∃ r : List Int, xs = r.map Val.int) ∧ ∃ g sd x, env = [some (.scr ns), some (.int g), some (.int sd), x] ∧ 0 ≤ sd ∧ sd < 2147483647) (ns.map Val.int) _ h ⟨rfl, ⟨ns, rfl⟩, 0, 17, none, rfl, by omega, by omega⟩ (fun v r env h' ⟨eh, ⟨q, eq⟩, g, sd, x, ee, s1, s2⟩ => ?_) (fun env h' ⟨eh, _, g, sd, x, ee, s1, s2⟩ => ?_)
  · subst eh ee
    cases q with
    | nil => cases eq
    | cons i q =>
      rw [List.map_cons] at eq
      injection eq with e1 e2
      subst e1 e2
      simp -implicitDefEqProofs only [okS_lift]
      show OkS (sSeq _ _ [some (.scr ns), some (.int g), some (.int sd), some (.int i)] h') _ _ _ _
      have tail : ∀ g' (rt' : Val → Heap → Prop) (bk' : Env → Heap → Prop), OkS ((sSeq (sAsg (xBin (bop .mod) (xBf (eCons (xBin (ownBin (obF tb cf .Add) (bop .add)) (xBin (ownBin (obF tb cf .Add) (bop .add)) (xBin (ownBin (obF tb cf .Mult) (bop .mul)) (xVar 2) (xLit (.int 31))) (xVar 3)) (xLit (.int 7))) (aNil)) (MP.f1 intV)) (xLit (.int 2147483647))) (gNm 2)) (sNx)) [some (.scr ns), some (.int g'), some (.int sd), some (.int i)] h') (fun e h => h = h' ∧ (∃ r : List Int, q.map Val.int = r.map Val.int) ∧ ∃ g sd x, e = [some (.scr ns), some (.int g), some (.int sd), x] ∧ 0 ≤ sd ∧ sd < 2147483647)
          rt' bk' (fun e h => h = h' ∧ (∃ r : List Int, q.map Val.int = r.map Val.int) ∧ ∃ g sd x, e = [some (.scr ns), some (.int g), some (.int sd), x] ∧ 0 ≤ sd ∧ sd < 2147483647) := fun g' rt' bk' => by
        simp -implicitDefEqProofs only [k_seq, k_nx, k_asg, k_bin, k_bf, k_cons, k_nil, k_f1, k_var, k_lit, List.getElem?_cons_zero, List.getElem?_cons_succ, Option.join_some, ok_opt, own_int, b_mul (mulOk_r (i := sd) (j := 31) (by omega) (by omega)), ok_ok, b_add, k_intI, b_mod (i := sd * 31 + i + 7) (j := 2147483647) (by omega), List.set_cons_succ, List.set_cons_zero]
        exact ⟨trivial, ⟨q, rfl⟩, _, _, _, rfl, Int.emod_nonneg _ (by omega), Int.emod_lt_of_pos _ (by omega)⟩
      rw [k_seq, k_if, k_tand, k_tcmp]
      simp -implicitDefEqProofs only [k_var, k_lit, List.getElem?_cons_zero, List.getElem?_cons_succ, Option.join_some, ok_opt, ok_ok, c_eqI, bl_bl]
      by_cases hg : (g == 0) = true
      · rw [hg, if_pos rfl]
        simp -implicitDefEqProofs only [k_tcmp, k_bin, k_var, k_lit, List.getElem?_cons_zero, List.getElem?_cons_succ, Option.join_some, ok_opt, ok_ok, b_pow (powOk_of (i := 10) (j := 18) (by omega) (by omega) (by omega) (by omega)), c_ge, bl_bl]
        cases decide ((10 : Int) ^ (18 : Int).toNat ≤ i) with
        | true =>
          rw [if_pos rfl, k_seq, k_asg]
          exact tail i _ _
        | false =>
          rw [if_neg Bool.false_ne_true, k_nx]
          exact tail g _ _
      · rw [if_neg hg, if_neg Bool.false_ne_true, k_nx]
        exact tail g _ _
  · subst eh ee
    simp -implicitDefEqProofs only [k_seq, k_nx, k_ret, k_lst, k_cons, k_nil, k_var, k_lit, List.getElem?_cons_zero, List.getElem?_cons_succ, Option.join_some, ok_opt]
    exact ⟨(show 3 ≤ lim by decide), g, sd, rfl, s1, s2, rfl⟩
end MP
end

section
/-! MP, part QH: calls, frames. -/
set_option autoImplicit false
set_option linter.all false
namespace MP
open PySem L2
theorem ok_run {tb : Tb} {fns : Nat → Option Fn} {wf fuel d i : Nat} {f : Fn} {args : List Val} {h : Heap} {Q : Val → Heap → Prop} {s : Fs} (hf : fns i = some f) (hl : args.length = f.ps.length) (hs : (ev tb (callF tb fns wf fuel d) f.N wf fuel).Ss f.sc f.body = s)
    (q : OkS (s (args.map some ++ List.replicate (f.N.length - args.length) none) h) (fun _ h => Q .non h) Q (fun _ _ => False) (fun _ _ => False)) : Ok (callF tb fns wf fuel (d + 1) i args h) Q := by
  show Ok (match fns i with | some f => runBody tb (callF tb fns wf fuel d) wf fuel f args h | none => .bad) Q
  rw [hf]
  show Ok (runBody tb (callF tb fns wf fuel d) wf fuel f args h) Q
  unfold runBody
  rw [if_pos hl, hs]
  cases z : s (args.map some ++ List.replicate (f.N.length - args.length) none) h with
  | nx e h' => rw [z] at q; exact q
  | rt v h' => rw [z] at q; exact q
  | bk e h' => rw [z] at q; exact q.elim
  | ct e h' => rw [z] at q; exact q.elim
  | ex e c fs h' => rw [z] at q; exact q.elim
  | bad => rw [z] at q; exact q.elim
/-- all cells but those of S stay -/
structure Fr (S : Nat → Prop) (h h' : Heap) : Prop where
  len : h.length ≤ h'.length
  keep : ∀ (a : Nat) (c : Cell), ¬ S a → h[a]? = some c → h'[a]? = some c
section
variable {S : Nat → Prop} {h h' h'' : Heap}
theorem Fr.refl (S : Nat → Prop) (h : Heap) : Fr S h h := ⟨Nat.le_refl _, fun _ _ _ e => e⟩
theorem Fr.trans (a : Fr S h h') (b : Fr S h' h'') : Fr S h h'' := ⟨Nat.le_trans a.len b.len, fun x c hx e => b.keep x c hx (a.keep x c hx e)⟩
theorem Fr.imp {S' : Nat → Prop} (a : Fr S h h') (i : ∀ x, S x → S' x) : Fr S' h h' := ⟨a.len, fun x c hx e => a.keep x c (fun z => hx (i x z)) e⟩
theorem Fr.app (S : Nat → Prop) (h l : Heap) : Fr S h (h ++ l) := ⟨by simp, fun x c _ e => by rw [List.getElem?_append_left (lt_of_get e)]; exact e⟩
theorem Fr.set {a : Nat} {c : Cell} (hS : S a) : Fr S h (h.set a c) := ⟨by simp, fun x c' hx e => by
  have hne : a ≠ x := fun z => by subst z; exact hx hS
  rw [List.getElem?_set_ne hne]; exact e⟩
/-- what was laid since may be changed -/
theorem Fr.new {a : Nat} (f : Fr S h h') (ha : h.length ≤ a) {c : Cell} : Fr S h (h'.set a c) := ⟨by simpa using f.len, fun x c' hx e => by
  have := lt_of_get e
  rw [List.getElem?_set_ne (by omega)]
  exact f.keep x c' hx e⟩
end
/-- the law's source, drawn from n times at the most -/
def Sr (h : Heap) (s : Nat) (n : Int) : Prop := ∃ g sd c, h[s]? = some (false, .lst (srcL g sd c)) ∧ 0 ≤ sd ∧ sd < 2147483647 ∧ 0 ≤ c ∧ c ≤ n
theorem Sr.mono {h : Heap} {s : Nat} {n m : Int} (x : Sr h s n) (i : n ≤ m) : Sr h s m := by
  obtain ⟨g, sd, c, e, a, b, d, f⟩ := x
  exact ⟨g, sd, c, e, a, b, d, by omega⟩
theorem Sr.lt {h : Heap} {s : Nat} {n : Int} (x : Sr h s n) : s < h.length := by
  obtain ⟨g, sd, c, e, _⟩ := x
  exact lt_of_get e
theorem Sr.app {h : Heap} {s : Nat} {n : Int} (x : Sr h s n) (l : Heap) : Sr (h ++ l) s n := by
  obtain ⟨g, sd, c, e, r⟩ := x
  exact ⟨g, sd, c, by rw [List.getElem?_append_left (lt_of_get e)]; exact e, r⟩
/-- what a draw does -/
def Drawn (s : Nat) (n m : Int) (h : Heap) (v : Val) (h' : Heap) : Prop := ∃ d, v = .int d ∧ 0 ≤ d ∧ d < m ∧ h'.length = h.length ∧ Fr (· = s) h h' ∧ Sr h' s (n + 1)
theorem draw_call {tb : Tb} {fns : Nat → Option Fn} {wf fuel d i : Nat} {f : Fn} {h : Heap} {s : Nat} {n m : Int} (hf : fns i = some f) (hps : f.ps.length = 2) (hN : f.N.length = 4) (hs : ∀ cf, (ev tb cf f.N wf fuel).Ss f.sc f.body = drawS tb cf)
    (hS : Sr h s n) (hn : n < 100000) (hm : 0 < m) (hm2 : m < 1073741824) : Ok (callF tb fns wf fuel (d + 1) i [.ref s, .int m] h) (Drawn s n m h) := by
  refine ok_run hf (by rw [hps]; rfl) (hs _) ?_
  obtain ⟨g, sd, c, e, h1, h2, h3, h4⟩ := hS
  rw [hN]
  have := draw_ok (tb := tb) (cf := callF tb fns wf fuel d) (nx := fun _ h' => Drawn s n m h .non h') (bk := fun _ _ => False) (ct := fun _ _ => False) e hm hm2 h1 h2 h3 (by omega)
  refine (show OkS (drawS tb (callF tb fns wf fuel d) [some (.ref s), some (.int m), none, none] h) _ _ _ _ from ?_)
  cases z : drawS tb (callF tb fns wf fuel d) [some (.ref s), some (.int m), none, none] h with
  | rt v h' =>
    rw [z] at this
    obtain ⟨dd, g', rfl, q1, q2, rfl⟩ := this
    exact ⟨dd, rfl, q1, q2, by simp, Fr.set rfl, g', sd, c + 1, set_at e, h1, h2, by omega, by omega⟩
  | nx e h' => rw [z] at this; exact this
  | bk e h' => rw [z] at this; exact this
  | ct e h' => rw [z] at this; exact this
  | ex e c fs h' => rw [z] at this; exact this
  | bad => rw [z] at this; exact this
end MP
end

section
/-! MP, part QI: [..][draw]. -/
set_option autoImplicit false
set_option linter.all false
namespace MP
open PySem L2
/-- cf i draws from the source at s -/
def DrawOk (c : List Val → Heap → Rs Val) (s : Nat) : Prop := ∀ (h : Heap) (n m : Int), Sr h s n → n < 100000 → 0 < m → m < 1073741824 → Ok (c [.ref s, .int m] h) (Drawn s n m h)
theorem atI_nat {α : Type} {xs : List α} {d : Int} (h0 : 0 ≤ d) (h1 : d < xs.length) : L2.atI xs d = xs[d.toNat]? := by
  unfold L2.atI
  have : L2.ixN xs.length d = some d.toNat := by
    unfold L2.ixN
    rw [if_pos h0, if_pos h1]
  rw [this]
  rfl
theorem mem_at {α : Type} {xs : List α} {d : Int} (h0 : 0 ≤ d) (h1 : d < xs.length) : ∃ v, L2.atI xs d = some v ∧ v ∈ xs := by
  rw [atI_nat h0 h1]
  have hd : d.toNat < xs.length := by omega
  exact ⟨xs[d.toNat], List.getElem?_eq_getElem hd, List.getElem_mem hd⟩
section
variable {env : Env} {h : Heap} {Q : Val → Heap → Prop}
theorem k_draw {c : List Val → Heap → Rs Val} {s j : Nat} {m n : Int} (hd : DrawOk c s) (he : env[j]? = some (some (.ref s))) (hS : Sr h s n) (hn : n < 100000) (hm : 0 < m) (hm2 : m < 1073741824) (q : ∀ d h', 0 ≤ d → d < m → h'.length = h.length → Fr (· = s) h h' → Sr h' s (n + 1) → Q (.int d) h') :
    Ok (eCall 2 c [] (eCons (xVar j) (eCons (xLit (.int m)) aNil)) env h) Q := by
  rw [k_call, k_cons, k_var, he]
  rw [show (some (some (Val.ref s))).join = some (Val.ref s) from rfl, ok_opt, k_cons, k_lit, k_nil]
  refine ⟨rfl, (hd h n m hS hn hm hm2).imp ?_⟩
  rintro v h' ⟨d, rfl, a, b, c', e, f⟩
  exact q d h' a b c' e f
theorem k_pick {c : List Val → Heap → Rs Val} {s j : Nat} {m : Int} {fs : Fa} (hd : DrawOk c s) (he : env[j]? = some (some (.ref s))) (q : Ok (fs env h) fun vs h1 => vs.length ≤ lim ∧ (vs.length : Int) = m ∧ 0 < m ∧ ∃ n, Sr h1 s n ∧ n < 100000 ∧ ∀ v h', v ∈ vs → Fr (· = s) h1 h' → h'.length = h1.length + 1 → Sr h' s (n + 1) → Q v h') :
    Ok (xBin ixV (eLst fs) (eCall 2 c [] (eCons (xVar j) (eCons (xLit (.int m)) aNil))) env h) Q := by
  rw [k_bin, k_lst]
  refine q.imp fun vs h1 ⟨hl, hm, h0, n, hS, hn, q⟩ => ⟨hl, ?_⟩
  have hm2 : m < 1073741824 := by rw [← hm]; have : (lim : Int) < 1073741824 := by decide
                                  omega
  refine k_draw hd he (hS.app _) hn h0 hm2 fun d h' a b c' e f => ?_
  have hlt : s ≠ h1.length := Nat.ne_of_lt hS.lt
  have hc : h'[h1.length]? = some (false, .lst vs) := e.keep _ _ (fun z => hlt z.symm) (by simp)
  obtain ⟨v, ev, hv⟩ := mem_at (xs := vs) a (by rw [hm]; exact b)
  have : ixV (.ref h1.length) (.int d) h' = .ok v h' := by
    unfold ixV
    dsimp only
    rw [rd_of hc]
    dsimp only
    rw [ev]
    rfl
  rw [this]
  exact q v h' hv ((Fr.app _ h1 _).trans e) (by rw [c']; simp) f
end
end MP
end

section
/-! MP, part QJ: names. -/
set_option autoImplicit false
set_option linter.all false
namespace MP
open PySem L2
def Lw (c : Nat) : Prop := 97 ≤ c ∧ c ≤ 122
def IsNm (x : Str) : Prop := 1 ≤ x.length ∧ x.length ≤ 8 ∧ ∀ c ∈ x.cps.toList, Lw c
theorem glue_list : ∀ (ys : List Str) (acc : Array Nat), (ys.foldl (fun (acc : Array Nat) (p : Str) => acc ++ (Str.ofString "").cps ++ p.cps) acc).toList = acc.toList ++ (ys.map (·.cps.toList)).flatten
  | [], acc => by simp
  | y :: ys, acc => by
    rw [List.foldl_cons, glue_list ys]
    have : (Str.ofString "").cps = #[] := by decide
    simp [this]
theorem join_list (ys : List Str) : (Txt.join "" ys).cps.toList = (ys.map (·.cps.toList)).flatten := by
  show ((ys.drop 1).foldl _ (ys.headD Str.empty).cps).toList = _
  cases ys with
  | nil => rfl
  | cons y ys =>
    show (ys.foldl _ y.cps).toList = _
    rw [glue_list]
    simp
end MP
end

section
/-! MP, part QK: heaps that grow, stepping. -/
set_option autoImplicit false
set_option linter.all false
namespace MP
open PySem L2
/-- all cells stay -/
abbrev Lx (h h' : Heap) : Prop := Fr (fun _ => False) h h'
/-- all cells but the source (cell 0) stay -/
abbrev Le (h h' : Heap) : Prop := Fr (fun a => a = 0) h h'
theorem Lx.le {h h' : Heap} (l : Lx h h') : Le h h' := l.imp fun _ z => z.elim
theorem Lx.src {h h' : Heap} {n : Int} (l : Lx h h') (s : Sr h 0 n) : Sr h' 0 n := by
  obtain ⟨g, sd, c, e, r⟩ := s
  exact ⟨g, sd, c, l.keep _ _ id e, r⟩
/-- what may be read at a -/
def At (h : Heap) (a : Nat) (c : B) : Prop := 0 < a ∧ rd h a = some c
/-- what may be written at a -/
def Aw (h : Heap) (a : Nat) (c : B) : Prop := 0 < a ∧ h[a]? = some (false, c)
section
variable {h h' h1 h2 : Heap} {a k : Nat} {c : B} {n : Int}
theorem Aw.at (x : Aw h a c) : At h a c := ⟨x.1, rd_of x.2⟩
theorem Aw.lt (x : Aw h a c) : a < h.length := lt_of_get x.2
theorem At.lt (x : At h a c) : a < h.length := by
  obtain ⟨b, e⟩ := rd_cell x.2
  exact lt_of_get e
theorem At.le (x : At h a c) (l : Le h h') : At h' a c := by
  obtain ⟨b, e⟩ := rd_cell x.2
  exact ⟨x.1, rd_of (l.keep a _ (Nat.ne_of_gt x.1) e)⟩
theorem Aw.le (x : Aw h a c) (l : Le h h') : Aw h' a c := ⟨x.1, l.keep a _ (Nat.ne_of_gt x.1) x.2⟩
theorem At.lx (x : At h a c) (l : Lx h h') : At h' a c := x.le l.le
theorem Aw.lx (x : Aw h a c) (l : Lx h h') : Aw h' a c := x.le l.le
theorem Aw.new (hp : 0 < h.length) : Aw (h ++ [(false, c)]) h.length c := ⟨hp, by simp⟩
theorem lock_rd (h : Heap) (lk : Option Nat) (a : Nat) : rd (lockH h lk) a = rd h a := by
  unfold lockH
  cases lk with
  | none => rfl
  | some k =>
    dsimp only
    split
    · rename_i b e
      unfold rd
      by_cases hk : k = a
      · subst hk; rw [List.getElem?_set_self (lt_of_get e), e]; rfl
      · rw [List.getElem?_set_ne hk]
    · rfl
theorem At.lock (x : At h a c) (lk : Option Nat) : At (lockH h lk) a c := ⟨x.1, by rw [lock_rd]; exact x.2⟩
theorem Aw.lock (x : Aw h a c) {k : Nat} (hk : k ≠ a) : Aw (lockH h (some k)) a c := by
  refine ⟨x.1, ?_⟩
  unfold lockH
  dsimp only
  split
  · rw [List.getElem?_set_ne hk]; exact x.2
  · exact x.2
theorem Sr.lock {lk : Option Nat} (s : Sr h 0 n) (hk : ∀ k, lk = some k → 0 < k) : Sr (lockH h lk) 0 n := by
  obtain ⟨g, sd, c, e, r⟩ := s
  refine ⟨g, sd, c, ?_, r⟩
  unfold lockH
  cases lk with
  | none => exact e
  | some k =>
    dsimp only
    split
    · rw [List.getElem?_set_ne (Nat.ne_of_gt (hk k rfl))]; exact e
    · exact e
/-- out of a loop -/
theorem Fr.unlock {S : Nat → Prop} {lk : Option Nat} (f : Fr S (lockH h1 lk) h2) : Fr S h1 (unlockH h1 h2 lk) := by
  cases lk with
  | none => exact f
  | some k =>
    unfold lockH at f
    unfold unlockH
    dsimp only at f ⊢
    split at f
    · rename_i b e
      have hl := f.len
      rw [List.length_set] at hl
      refine ⟨by rw [List.length_set]; exact hl, fun x c' hx ex => ?_⟩
      by_cases hk : k = x
      · subst hk
        rw [e] at ex; cases ex
        exact List.getElem?_set_self (Nat.lt_of_lt_of_le (lt_of_get e) hl)
      · rw [List.getElem?_set_ne hk]
        exact f.keep x c' hx (by rw [List.getElem?_set_ne hk]; exact ex)
    · exact f
theorem Sr.unlock {lk : Option Nat} (s : Sr h2 0 n) (hk : ∀ k, lk = some k → 0 < k) : Sr (unlockH h1 h2 lk) 0 n := by
  obtain ⟨g, sd, c, e, r⟩ := s
  refine ⟨g, sd, c, ?_, r⟩
  unfold unlockH
  cases lk with
  | none => exact e
  | some k =>
    dsimp only
    split
    · rw [List.getElem?_set_ne (Nat.ne_of_gt (hk k rfl))]; exact e
    · exact e
end
section
variable {env : Env} {h : Heap} {Q : Val → Heap → Prop} {nx : Env → Heap → Prop} {rt : Val → Heap → Prop} {bk ct : Env → Heap → Prop}
/-- one statement, the rest hidden -/
theorem k_seqK {f1 f2 : Fs} (q : ∀ K : Env → Heap → Prop, (∀ e h, OkS (f2 e h) nx rt bk ct → K e h) → OkS (f1 env h) K rt bk ct) : OkS (sSeq f1 f2 env h) nx rt bk ct := by
  rw [k_seq]
  exact q _ fun e h q => q
end
/-- item by item -/
inductive All2 {α β : Type} (R : α → β → Prop) : List α → List β → Prop
  | nil : All2 R [] []
  | cons {a : α} {b : β} {l : List α} {m : List β} : R a b → All2 R l m → All2 R (a :: l) (b :: m)
theorem All2.length {α β : Type} {R : α → β → Prop} {l : List α} {m : List β} (h : All2 R l m) : l.length = m.length := by
  induction h with
  | nil => rfl
  | cons _ _ ih => rw [List.length_cons, List.length_cons, ih]
/-- a comprehension that draws k times at the most a turn -/
theorem lc_rel {f : Val → Heap → Rs (Option Val)} (R : Val → Option Val → Prop) (k : Int) (hk : 0 ≤ k) : ∀ (xs acc : List Val) (h : Heap) (n : Int), Sr h 0 n →
    (∀ v ∈ xs, ∀ h1 m, Le h h1 → Sr h1 0 m → n ≤ m → m + k ≤ n + k * xs.length → Ok (f v h1) fun o h2 => R v o ∧ Le h1 h2 ∧ Sr h2 0 (m + k)) →
    Ok (lcGo f xs acc h) fun ys h' => Le h h' ∧ Sr h' 0 (n + k * xs.length) ∧ ∃ os, All2 R xs os ∧ ys = acc ++ os.filterMap id
  | [], acc, h, n, s, _ => ⟨Fr.refl _ _, by simpa using s, [], .nil, by simp⟩
  | v :: r, acc, h, n, s, st => by
    have hlen : n + k * ((v :: r).length : Nat) = n + k + k * (r.length : Nat) := by
      rw [List.length_cons, Int.natCast_add, Int.mul_add]; omega
    have hr : 0 ≤ k * (r.length : Nat) := Int.mul_nonneg hk (by omega)
    have q := st v List.mem_cons_self h n (Fr.refl _ _) s (Int.le_refl _) (by omega)
    unfold lcGo
    cases z : f v h with
    | ok o h' =>
      rw [z] at q
      obtain ⟨q1, q2, q3⟩ := q
      have step := fun acc => lc_rel R k hk r acc h' (n + k) q3 fun v hv h1 m l1 s1 h1n h2n => st v (List.mem_cons_of_mem _ hv) h1 m (q2.trans l1) s1 (by omega) (by omega)
      cases o with
      | some y => exact (step (acc ++ [y])).imp fun ys h'' ⟨l, s', os, ro, e⟩ => ⟨q2.trans l, by rw [hlen]; exact s', some y :: os, .cons q1 ro, by rw [e]; simp⟩
      | none => exact (step acc).imp fun ys h'' ⟨l, s', os, ro, e⟩ => ⟨q2.trans l, by rw [hlen]; exact s', none :: os, .cons q1 ro, by rw [e]; simp⟩
    | ex c fs h' => rw [z] at q; exact q.elim
    | bad => rw [z] at q; exact q.elim
/-- a comprehension that changes nothing -/
theorem lc_fun {f : Val → Heap → Rs (Option Val)} (F : Val → Option Val) : ∀ (xs acc : List Val) (h : Heap),
    (∀ v ∈ xs, ∀ h1, Lx h h1 → Ok (f v h1) fun o h2 => o = F v ∧ Lx h1 h2) → Ok (lcGo f xs acc h) fun ys h' => Lx h h' ∧ ys = acc ++ xs.filterMap F
  | [], acc, h, _ => ⟨Fr.refl _ _, by simp⟩
  | v :: r, acc, h, st => by
    have q := st v List.mem_cons_self h (Fr.refl _ _)
    unfold lcGo
    cases z : f v h with
    | ok o h' =>
      rw [z] at q
      obtain ⟨q1, q2⟩ := q
      have step := fun acc => lc_fun F r acc h' fun v hv h1 l1 => st v (List.mem_cons_of_mem _ hv) h1 (q2.trans l1)
      cases o with
      | some y => exact (step (acc ++ [y])).imp fun ys h'' ⟨l, e⟩ => ⟨q2.trans l, by rw [e, List.filterMap_cons, ← q1]; simp⟩
      | none => exact (step acc).imp fun ys h'' ⟨l, e⟩ => ⟨q2.trans l, by rw [e, List.filterMap_cons, ← q1]⟩
    | ex c fs h' => rw [z] at q; exact q.elim
    | bad => rw [z] at q; exact q.elim
theorem dc_fun {f : Val → Heap → Rs (Option (Key × Val))} (F : Val → Option (Key × Val)) : ∀ (xs : List Val) (acc : List (Key × Val)) (h : Heap),
    (∀ v ∈ xs, ∀ h1, Lx h h1 → Ok (f v h1) fun o h2 => o = F v ∧ Lx h1 h2) → Ok (dcGo f xs acc h) fun ys h' => Lx h h' ∧ ys = merK acc (xs.filterMap F)
  | [], acc, h, _ => ⟨Fr.refl _ _, by simp [merK]⟩
  | v :: r, acc, h, st => by
    have q := st v List.mem_cons_self h (Fr.refl _ _)
    unfold dcGo
    cases z : f v h with
    | ok o h' =>
      rw [z] at q
      obtain ⟨q1, q2⟩ := q
      have step := fun acc => dc_fun F r acc h' fun v hv h1 l1 => st v (List.mem_cons_of_mem _ hv) h1 (q2.trans l1)
      cases o with
      | some y => exact (step (setK acc y.1 y.2)).imp fun ys h'' ⟨l, e⟩ => ⟨q2.trans l, by rw [e, List.filterMap_cons, ← q1]; rfl⟩
      | none => exact (step acc).imp fun ys h'' ⟨l, e⟩ => ⟨q2.trans l, by rw [e, List.filterMap_cons, ← q1]⟩
    | ex c fs h' => rw [z] at q; exact q.elim
    | bad => rw [z] at q; exact q.elim
end MP
end

section
/-! MP, part QL: drawn names. -/
set_option autoImplicit false
set_option linter.all false
set_option maxRecDepth 10000
namespace MP
open PySem L2
theorem Fr.le {h h' : Heap} (l : Fr (fun _ => False) h h') : Le h h' := l.imp fun _ z => z.elim
theorem Fr.src {h h' : Heap} {n : Int} (l : Fr (fun _ => False) h h') (s : Sr h 0 n) : Sr h' 0 n := Lx.src l s
theorem le_lim {k : Nat} (h : k ≤ 100) : k ≤ lim := Nat.le_trans h (by decide)
theorem lim_ok {k : Nat} (h : k ≤ 100) : (k ≤ lim) = True := eq_true (le_lim h)
def bmT (m : Str) : BK → Option Fm := (bmOf m).getD fun _ => none
theorem lock_none {h : Heap} : lockH h none = h := congrArg (fun x => x) rfl
theorem unlock_none {h h1 : Heap} : unlockH h h1 none = h1 := congrArg (fun x => x) rfl
theorem k_bmX {env : Env} {h : Heap} {Q : Val → Heap → Prop} {tab : BK → Option Fm} {fo : Fe} {fs : Fa} : Ok (eBm tab fo fs env h) Q = Ok (fo env h) fun v h1 => ∃ k, bkOf v h1 = some k ∧ ∃ f, tab k = some f ∧ Ok (fs env h1) fun vs h2 => Ok (f v vs h2) Q := by
  rw [k_bm]
  congr 1; funext v h1
  apply propext
  exact ⟨fun ⟨k, f, a, b, c⟩ => ⟨k, a, f, b, c⟩, fun ⟨k, a, f, b, c⟩ => ⟨k, f, a, b, c⟩⟩
theorem if_T {p q : Prop} : (if True then p else q) = p := if_pos trivial
theorem if_F {p q : Prop} : (if False then p else q) = q := if_neg id
theorem c_ltI {i j : Int} {h : Heap} : cop .lt (.int i) (.int j) h = .ok (.bl (decide (i < j))) h := congrArg (fun x => x) rfl
theorem c_leI {i j : Int} {h : Heap} : cop .le (.int i) (.int j) h = .ok (.bl (decide (i ≤ j))) h := congrArg (fun x => x) rfl
section
variable {env : Env} {h : Heap} {Q : Val → Heap → Prop}
theorem k_sl {f : Fe} {fl fh : Env → Heap → Rs (Option Int)} : Ok (eSl f fl fh env h) Q = Ok (f env h) fun v h1 => Ok (fl env h1) fun lo h2 => Ok (fh env h2) fun hi h3 => Ok (slV v lo hi h3) Q := by
  show Ok ((f env h).bind _) Q = _
  simp only [ok_bind]
theorem k_part {f : Fe} {Q : Option Int → Heap → Prop} : Ok (ePart f env h) Q = Ok (f env h) fun v h1 => ∃ k, v = .int k ∧ Q (some k) h1 := by
  refine ok_congr fun v h1 => ?_
  cases v <;> simp [Ok]
theorem k_pnone {Q : Option Int → Heap → Prop} : Ok (pNone env h) Q = Q none h := congrArg (fun x => x) rfl
end
theorem sl_str {z : Str} {lo hi : Option Int} {h : Heap} : slV (.str z) lo hi h = .ok (.str (cutS z lo hi)) h := congrArg (fun x => x) rfl
theorem strsV_map : ∀ ys : List Str, strsV (ys.map Val.str) = some ys
  | [] => rfl
  | y :: ys => by rw [List.map_cons, strsV, strsV_map ys]; rfl
theorem m_join {h : Heap} {a : Nat} {z : Str} {ys : List Str} (e : rd h a = some (.lst (ys.map Val.str))) (h1 : (ys.map (·.length)).sum + ys.length * z.length ≤ lim) (h2 : (Txt.join z ys).length ≤ lim) : mJoin (.str z) [.ref a] h = .ok (.str (Txt.join z ys)) h := by
  unfold mJoin listOf
  simp only [e, Option.bind_some, strsV_map, h1, h2, and_self, if_true]
theorem any_strs (x : Str) (tk : List Str) : ((tk.map Val.str).any fun z => eqF z (.str x)) = decide (x ∈ tk) := by
  induction tk with
  | nil => rfl
  | cons y ys ih => 
    rw [List.map_cons, List.any_cons, ih, show eqF (.str y) (.str x) = (y == x) from rfl, Bool.eq_iff_iff, Bool.or_eq_true, beq_iff_eq, decide_eq_true_eq, decide_eq_true_eq, List.mem_cons]
    exact or_congr ⟨Eq.symm, Eq.symm⟩ Iff.rfl
theorem all_flatS (tk : List Str) : (tk.map Val.str).all flat = true := by
  rw [List.all_map, List.all_eq_true]
  intro x _
  rfl
theorem c_ninS {tb : Tb} {cf : Cf} {x : Str} {t : Nat} {h : Heap} {tk : List Str} (e : rd h t = some (.lst (tk.map Val.str))) : cmpF tb cf .NotIn (.str x) (.ref t) h = .ok (.bl (!decide (x ∈ tk))) h := by
  show cop .nin (.str x) (.ref t) h = _
  unfold cop
  simp only [e, all_flatS, any_strs, show flat (.str x) = true from rfl, Bool.and_self, if_true]
theorem lw_abc {d : Int} (h0 : 0 ≤ d) (h1 : d < 26) : ∃ ch, atI (Str.ofString "abcdefghijklmnopqrstuvwxyz").cps.toList d = some ch ∧ Lw ch := by
  have e : (Str.ofString "abcdefghijklmnopqrstuvwxyz").cps.toList = (List.range 26).map (· + 97) := by decide +kernel
  rw [e, atI_nat h0 (by simp; omega)]
  refine ⟨d.toNat + 97, ?_, ?_⟩
  · rw [List.getElem?_map, List.getElem?_range (by omega)]; rfl
  · unfold Lw; omega
instance (c : Nat) : Decidable (Lw c) := inferInstanceAs (Decidable (_ ∧ _))
instance (x : Str) : Decidable (IsNm x) := inferInstanceAs (Decidable (_ ∧ _ ∧ ∀ _ ∈ _, Lw _))
theorem bk_str {x : Str} {h : Heap} : bkOf (.str x) h = some .s := congrArg (fun x => x) rfl
theorem bk_l {h : Heap} {a : Nat} {b : Bool} {xs : List Val} (e : h[a]? = some (b, .lst xs)) : bkOf (.ref a) h = some .l := by simp only [bkOf, e]
theorem bk_d {h : Heap} {a : Nat} {kvs : List (Key × Val)} (e : h[a]? = some (false, .dct kvs)) : bkOf (.ref a) h = some .d := by simp only [bkOf, e]
theorem tm_join : bmT "join" .s = some mJoin := by rfl
theorem tm_append : bmT "append" .l = some mAppend := by rfl
theorem tm_clearL : bmT "clear" .l = some mClearL := by rfl
theorem tm_clearD : bmT "clear" .d = some mClearD := by rfl
theorem tm_extend : bmT "extend" .l = some mExtend := by rfl
theorem tm_pop : bmT "pop" .l = some mPop := by rfl
theorem tm_get : bmT "get" .d = some mGet := by rfl
theorem tm_split : bmT "split" .s = some mSplit := by rfl
theorem tm_partition : bmT "partition" .s = some mPartition := by rfl
/-- a drawn name -/
structure Nm (x : Str) : Prop where
  is : IsNm x
  mid : 3 < x.length → x.length < 8 → x = "refuse" ∨ x.cps.toList.head? = some 113
def nameS (tb : Tb) (cf : Cf) (c : List Val → Heap → Rs Val) : Fs :=
  sSeq (sAsg (xBin ixV (eLst (eCons (xLit (.int 8)) (eCons (xLit (.int 4)) (eCons (xLit (.int 5)) (eCons (xLit (.int 6)) (eCons (xLit (.int 7)) (eCons (xLit (.int 1)) (eCons (xLit (.int 2)) (eCons (xLit (.int 3)) (eCons (xLit (.int 1)) (eCons (xLit (.int 2)) (eCons (xLit (.int 3)) (eCons (xLit (.int 1)) (eCons (xLit (.int 2)) (aNil))))))))))))))) (eCall 2 c [] (eCons (xVar 0) (eCons (xLit (.int 13)) (aNil))))) (gNm 2)) (sSeq (sAsg (eBm (bmT "join") (xLit (.str "")) (eCons (eLc (iRng1 (eCons (xVar 2) (aNil))) (gNm 4) (tTrue) (xBin ixV (xLit (.str "abcdefghijklmnopqrstuvwxyz")) (eCall 2 c [] (eCons (xVar 0) (eCons (xLit (.int 26)) (aNil))))) [4]) (aNil))) (gNm 3)) (sSeq (sIf (tChn (cop .lt) (cop .lt) (xLit (.int 3)) (xVar 2) (xLit (.int 8))) (sSeq (sAsg (xBin ixV (eLst (eCons (xLit (.str "old")) (eCons (xLit (.str "new")) (eCons (xLit (.str "do")) (eCons (xLit (.str "add")) (eCons (xLit (.str "set")) (eCons (xLit (.str "refuse")) (eCons (xBin (ownBin (obF tb cf .Add) (bop .add)) (xLit (.str "q")) (eSl (xVar 3) (ePart (xLit (.int 1))) (pNone))) (aNil))))))))) (eCall 2 c [] (eCons (xVar 0) (eCons (xLit (.int 7)) (aNil))))) (gNm 3)) (sNx)) (sNx)) (sSeq (sIf (tCmp (cmpF tb cf .NotIn) (xVar 3) (xVar 1)) (sSeq (sRet (xVar 3)) (sNx)) (sNx)) (sSeq (sRet (xBin ixV (eLc (iVal (eLc (iVal (xLit (.str "abcdefghijklmnopqrstuvwxyz"))) (gNm 6) (tTrue) (xBin (ownBin (obF tb cf .Add) (bop .add)) (xLit (.str "z")) (xVar 6)) [6])) (gNm 5) (tCmp (cmpF tb cf .NotIn) (xVar 5) (xVar 1)) (xVar 5) [5]) (xLit (.int 0)))) (sNx)))))
theorem src_lst {h : Heap} {a : Nat} {xs : List Val} (e : rd h a = some (.lst xs)) : srcV (.ref a) h = .ok ⟨xs, some a⟩ h := by unfold srcV; simp only [e]
theorem src_dct {h : Heap} {a : Nat} {kvs : List (Key × Val)} (e : rd h a = some (.dct kvs)) : srcV (.ref a) h = .ok ⟨kvs.map fun kv => vKey kv.1, some a⟩ h := by unfold srcV; simp only [e]
theorem src_itm {h : Heap} {a : Nat} {kvs : List (Key × Val)} (e : rd h a = some (.dct kvs)) : srcI (.ref a) h = .ok ⟨kvs.map fun kv => Val.tup [vKey kv.1, kv.2], some a⟩ h := by unfold srcI; simp only [e]
theorem rd_new {h : Heap} {b : B} {a : Nat} (e : a = h.length) : rd (h ++ [(false, b)]) a = some b := by subst e; unfold rd; simp
theorem b_addS {x y : Str} {h : Heap} (k : x.length + y.length ≤ lim) : bop .add (.str x) (.str y) h = .ok (.str (x ++ y)) h := by
  show (if _ then _ else _) = _
  rw [if_pos k]
theorem src_strV {x : Str} {h : Heap} : srcV (.str x) h = .ok ⟨strV x, none⟩ h := congrArg (fun x => x) rfl
theorem ix_lst {h : Heap} {a : Nat} {xs : List Val} {i : Int} (e : rd h a = some (.lst xs)) : ixV (.ref a) (.int i) h = opt (atI xs i) h := by unfold ixV; simp only [e]
theorem ix_dct {h : Heap} {a : Nat} {kvs : List (Key × Val)} {x : Str} (e : rd h a = some (.dct kvs)) : ixV (.ref a) (.str x) h = opt (lookK kvs (.inr x)) h := by unfold ixV; simp only [e]; rfl
theorem len_app (x y : Str) : (x ++ y).length = x.length + y.length := by
  show (x ++ y).cps.size = _
  rw [← Array.length_toList, show (x ++ y).cps.toList = x.cps.toList ++ y.cps.toList from TL.tl_append x y, List.length_append, Array.length_toList, Array.length_toList]
  rfl
theorem all2_chs {xs : List Val} {os : List (Option Val)} (ro : All2 (fun _ o => ∃ ch : Nat, o = some (.str ⟨#[ch]⟩) ∧ Lw ch) xs os) : ∃ chs : List Nat, List.filterMap id os = (chs.map fun ch => (⟨#[ch]⟩ : Str)).map Val.str ∧ chs.length = xs.length ∧ ∀ ch ∈ chs, Lw ch := by
  induction ro with
  | nil => exact ⟨[], rfl, rfl, fun _ h => absurd h List.not_mem_nil⟩
  | cons r _ ih =>
    obtain ⟨ch, rfl, hw⟩ := r
    obtain ⟨chs, e1, e2, e3⟩ := ih
    refine ⟨ch :: chs, by simp [e1], by simp [e2], fun x hx => ?_⟩
    rcases List.mem_cons.mp hx with rfl | hx
    · exact hw
    · exact e3 x hx
theorem nm_lit {x : Str} (h : IsNm x) (h2 : ¬ (3 < x.length ∧ x.length < 8)) : Nm x := ⟨h, fun a b => absurd ⟨a, b⟩ h2⟩
/-- cf i draws from the source at 0 -/
abbrev Dr (c : List Val → Heap → Rs Val) : Prop := DrawOk c 0
/-- an item of a new list, drawn -/
theorem pick {c : List Val → Heap → Rs Val} {h : Heap} {n m : Int} {vs : List Val} {Q : Val → Heap → Prop} (hd : Dr c) (hS : Sr h 0 n) (hn : n < 90000) (hm : (vs.length : Int) = m) (h0 : 0 < m) (hl : vs.length ≤ 100)
    (q : ∀ v h', v ∈ vs → Le h h' → Sr h' 0 (n + 1) → Q v h') : Ok (c [.ref 0, .int m] (h ++ [(false, .lst vs)])) fun y h' => Ok (ixV (.ref h.length) y h') Q := by
  have hm2 : m < 1073741824 := by omega
  refine (hd (h ++ [(false, .lst vs)]) n m (hS.app _) (by omega) h0 hm2).imp ?_
  rintro y h' ⟨d, rfl, a, b, c', e, f⟩
  have hc : h'[h.length]? = some (false, .lst vs) := e.keep _ _ (Nat.ne_of_gt hS.lt) (by simp)
  obtain ⟨v, ev, hv⟩ := mem_at (xs := vs) a (by rw [hm]; exact b)
  have : ixV (.ref h.length) (.int d) h' = .ok v h' := by
    unfold ixV
    dsimp only
    rw [rd_of hc]
    dsimp only
    rw [ev]
    rfl
  rw [this]
  exact q v h' hv ((Fr.app _ h _).trans e) f
theorem name_ok {tb : Tb} {cf : Cf} {c : List Val → Heap → Rs Val} {t : Nat} {h : Heap} {n : Int} {tk : List Str} (hd : Dr c) (hS : Sr h 0 n) (hn : n < 80000) (ht : At h t (.lst (tk.map Val.str))) (hk : tk.length < 26) {nx bk ct : Env → Heap → Prop} :
    OkS (nameS tb cf c [some (.ref 0), some (.ref t), none, none, none, none, none] h) nx (fun v h' => ∃ x, v = .str x ∧ Nm x ∧ x ∉ tk ∧ Le h h' ∧ Sr h' 0 (n + 10)) bk ct := by
  unfold nameS
  with_reducible refine k_seqK fun K hK => ?_
  simp -implicitDefEqProofs only [k_asg, k_setE, k_asg2, k_par2, k_ret, k_expr, k_if, k_nx, k_bk, k_ct, k_var, k_lit, k_bin, k_then, k_bf, k_nil, k_cons, k_f1, k_new, k_al, k_tup, k_lst, k_call, k_and, k_or, k_not, k_ifx, k_tru, k_tcmp, k_tand, k_tor, k_tnot, k_chain, k_tchn, k_ttrue, k_fld, k_make, k_meth, k_bmX, k_sub, k_setF, k_lc, k_dc, k_for, k_ival, k_iitems, k_irng, k_turn, k_dturn, ok_ok, ok_opt, bl_bl, List.getElem?_cons_zero, List.getElem?_cons_succ, Option.join_some, List.set_cons_succ, List.set_cons_zero, own_int, own_str, b_add, b_sub, k_intI, c_eqI, c_neI, c_lt, c_ge, c_gt, List.length_cons, List.length_nil, List.cons_append, List.nil_append, Nat.zero_add, lim_ok, Nat.reduceAdd, Nat.reduceLeDiff, true_and, ne_eq, reduceCtorEq, not_false_eq_true, and_true, bk_str, List.cons.injEq, Val.int.injEq, wipeE, lock_none, unlock_none, if_T, if_F, Bool.false_eq_true, c_ltI, c_leI, k_sl, k_part, k_pnone, sl_str, tm_join, Option.some.injEq, exists_eq_left', exists_eq_left]
  refine pick (m := 13) hd hS (by omega) (by rfl) (by decide) (by decide) fun v h1 hv l1 S1 => ?_
  obtain ⟨z, rfl, z1, z2⟩ : ∃ z : Nat, v = .int (z : Int) ∧ 1 ≤ z ∧ z ≤ 8 := by
    simp only [List.mem_cons, List.not_mem_nil, or_false] at hv
    rcases hv with rfl | rfl | rfl | rfl | rfl | rfl | rfl | rfl | rfl | rfl | rfl | rfl | rfl <;> exact ⟨_, rfl, by decide, by decide⟩
  refine hK _ _ ?_
  clear hK K hv
  with_reducible refine k_seqK fun K hK => ?_
  simp -implicitDefEqProofs only [k_asg, k_setE, k_asg2, k_par2, k_ret, k_expr, k_if, k_nx, k_bk, k_ct, k_var, k_lit, k_bin, k_then, k_bf, k_nil, k_cons, k_f1, k_new, k_al, k_tup, k_lst, k_call, k_and, k_or, k_not, k_ifx, k_tru, k_tcmp, k_tand, k_tor, k_tnot, k_chain, k_tchn, k_ttrue, k_fld, k_make, k_meth, k_bmX, k_sub, k_setF, k_lc, k_dc, k_for, k_ival, k_iitems, k_irng, k_turn, k_dturn, ok_ok, ok_opt, bl_bl, List.getElem?_cons_zero, List.getElem?_cons_succ, Option.join_some, List.set_cons_succ, List.set_cons_zero, own_int, own_str, b_add, b_sub, k_intI, c_eqI, c_neI, c_lt, c_ge, c_gt, List.length_cons, List.length_nil, List.cons_append, List.nil_append, Nat.zero_add, lim_ok, Nat.reduceAdd, Nat.reduceLeDiff, true_and, ne_eq, reduceCtorEq, not_false_eq_true, and_true, bk_str, List.cons.injEq, Val.int.injEq, wipeE, lock_none, unlock_none, if_T, if_F, Bool.false_eq_true, c_ltI, c_leI, k_sl, k_part, k_pnone, sl_str, tm_join, Option.some.injEq, exists_eq_left', exists_eq_left]
  have hz : (rngV 0 (z : Int).toNat).length = z := by simp [rngV]
  refine ⟨⟨by omega, by omega⟩, by rw [hz]; exact le_lim (by omega), ?_⟩
  refine (lc_rel (fun _ o => ∃ ch : Nat, o = some (.str ⟨#[ch]⟩) ∧ Lw ch) 1 (by decide) _ [] h1 (n + 1) S1 ?_).imp ?_
  · intro v hv h2 m l2 S2 m1 m2
    rw [hz] at m2
    simp -implicitDefEqProofs only [k_asg, k_setE, k_asg2, k_par2, k_ret, k_expr, k_if, k_nx, k_bk, k_ct, k_var, k_lit, k_bin, k_then, k_bf, k_nil, k_cons, k_f1, k_new, k_al, k_tup, k_lst, k_call, k_and, k_or, k_not, k_ifx, k_tru, k_tcmp, k_tand, k_tor, k_tnot, k_chain, k_tchn, k_ttrue, k_fld, k_make, k_meth, k_bmX, k_sub, k_setF, k_lc, k_dc, k_for, k_ival, k_iitems, k_irng, k_turn, k_dturn, ok_ok, ok_opt, bl_bl, List.getElem?_cons_zero, List.getElem?_cons_succ, Option.join_some, List.set_cons_succ, List.set_cons_zero, own_int, own_str, b_add, b_sub, k_intI, c_eqI, c_neI, c_lt, c_ge, c_gt, List.length_cons, List.length_nil, List.cons_append, List.nil_append, Nat.zero_add, lim_ok, Nat.reduceAdd, Nat.reduceLeDiff, true_and, ne_eq, reduceCtorEq, not_false_eq_true, and_true, bk_str, List.cons.injEq, Val.int.injEq, wipeE, lock_none, unlock_none, if_T, if_F, Bool.false_eq_true, c_ltI, c_leI, k_sl, k_part, k_pnone, sl_str, tm_join, Option.some.injEq, exists_eq_left', exists_eq_left]
    refine (hd h2 m 26 S2 (by omega) (by decide) (by decide)).imp ?_
    rintro y h3 ⟨d, rfl, d0, d1, _, l3, S3⟩
    obtain ⟨ch, e, hw⟩ := lw_abc d0 d1
    simp only [ixV, e, ok_ok]
    exact ⟨⟨ch, rfl, hw⟩, l3, S3⟩
  · rintro ys h2 ⟨l2, S2, os, ro, rfl⟩
    rw [hz] at S2
    simp -implicitDefEqProofs only [k_asg, k_setE, k_asg2, k_par2, k_ret, k_expr, k_if, k_nx, k_bk, k_ct, k_var, k_lit, k_bin, k_then, k_bf, k_nil, k_cons, k_f1, k_new, k_al, k_tup, k_lst, k_call, k_and, k_or, k_not, k_ifx, k_tru, k_tcmp, k_tand, k_tor, k_tnot, k_chain, k_tchn, k_ttrue, k_fld, k_make, k_meth, k_bmX, k_sub, k_setF, k_lc, k_dc, k_for, k_ival, k_iitems, k_irng, k_turn, k_dturn, ok_ok, ok_opt, bl_bl, List.getElem?_cons_zero, List.getElem?_cons_succ, Option.join_some, List.set_cons_succ, List.set_cons_zero, own_int, own_str, b_add, b_sub, k_intI, c_eqI, c_neI, c_lt, c_ge, c_gt, List.length_cons, List.length_nil, List.cons_append, List.nil_append, Nat.zero_add, lim_ok, Nat.reduceAdd, Nat.reduceLeDiff, true_and, ne_eq, reduceCtorEq, not_false_eq_true, and_true, bk_str, List.cons.injEq, Val.int.injEq, wipeE, lock_none, unlock_none, if_T, if_F, Bool.false_eq_true, c_ltI, c_leI, k_sl, k_part, k_pnone, sl_str, tm_join, Option.some.injEq, exists_eq_left', exists_eq_left]
    obtain ⟨chs, e1, e2, e3⟩ : ∃ chs : List Nat, List.filterMap id os = (chs.map fun ch => (⟨#[ch]⟩ : Str)).map Val.str ∧ chs.length = z ∧ ∀ ch ∈ chs, Lw ch := by
      rw [← hz]; exact all2_chs ro
    rw [e1]
    have hjl : (Txt.join "" (chs.map fun ch => (⟨#[ch]⟩ : Str))).cps.toList = chs := by
      rw [join_list, List.map_map]
      clear e1 e2 e3
      induction chs with
      | nil => rfl
      | cons a l ih => simp at ih ⊢; exact ih
    have hj : (Txt.join "" (chs.map fun ch => (⟨#[ch]⟩ : Str))).length = z := by
      show (Txt.join "" (chs.map fun ch => (⟨#[ch]⟩ : Str))).cps.size = z
      rw [← Array.length_toList, hjl, e2]
    have hsum : ((chs.map fun ch => (⟨#[ch]⟩ : Str)).map (·.length)).sum = z := by
      rw [← e2]
      clear e1 e2 e3 hjl hj
      induction chs with
      | nil => rfl
      | cons a l ih => simp only [List.map_cons, List.sum_cons, ih, List.length_cons]; show 1 + _ = _; omega
    rw [m_join (ys := chs.map fun ch => (⟨#[ch]⟩ : Str)) (by unfold rd; simp) (by rw [hsum, show (Str.ofString "").length = 0 from by decide]; exact le_lim (by omega)) (by rw [hj]; exact le_lim (by omega)), ok_ok]
    generalize hx : Txt.join "" (chs.map fun ch => (⟨#[ch]⟩ : Str)) = x at hjl hj
    refine hK _ _ ?_
    have l3 : Le h (h2 ++ [(false, B.lst ((chs.map fun ch => (⟨#[ch]⟩ : Str)).map Val.str))]) := (l1.trans l2).trans (Fr.app _ _ _)
    have S3 := S2.app [(false, B.lst ((chs.map fun ch => (⟨#[ch]⟩ : Str)).map Val.str))]
    generalize h2 ++ [(false, B.lst ((chs.map fun ch => (⟨#[ch]⟩ : Str)).map Val.str))] = h3 at l3 S3
    have hIs : IsNm x := ⟨by omega, by omega, by rw [hjl]; exact e3⟩
    clear hK K e1 hsum hx l2 S2 S1 l1 ro
    have ends : ∀ (y : Str) (h4 : Heap) (env : Env), env[0]? = some (some (.ref 0)) → env[1]? = some (some (.ref t)) → env[3]? = some (some (.str y)) → env.length = 7 → Nm y → Le h h4 → Sr h4 0 (n + 10) →
        OkS (sSeq (sIf (tCmp (cmpF tb cf .NotIn) (xVar 3) (xVar 1)) (sSeq (sRet (xVar 3)) (sNx)) (sNx)) (sSeq (sRet (xBin ixV (eLc (iVal (eLc (iVal (xLit (.str "abcdefghijklmnopqrstuvwxyz"))) (gNm 6) (tTrue) (xBin (ownBin (obF tb cf .Add) (bop .add)) (xLit (.str "z")) (xVar 6)) [6])) (gNm 5) (tCmp (cmpF tb cf .NotIn) (xVar 5) (xVar 1)) (xVar 5) [5]) (xLit (.int 0)))) (sNx)) env h4) nx (fun v h' => ∃ x, v = .str x ∧ Nm x ∧ x ∉ tk ∧ Le h h' ∧ Sr h' 0 (n + 10)) bk ct := by
      intro y h4 env e0 e1 e3 el hy l4 S4
      have ht4 := ht.le l4
      with_reducible refine k_seqK fun K hK => ?_
      simp -implicitDefEqProofs only [k_asg, k_setE, k_asg2, k_par2, k_ret, k_expr, k_if, k_nx, k_bk, k_ct, k_var, k_lit, k_bin, k_then, k_bf, k_nil, k_cons, k_f1, k_new, k_al, k_tup, k_lst, k_call, k_and, k_or, k_not, k_ifx, k_tru, k_tcmp, k_tand, k_tor, k_tnot, k_chain, k_tchn, k_ttrue, k_fld, k_make, k_meth, k_bmX, k_sub, k_setF, k_lc, k_dc, k_for, k_ival, k_iitems, k_irng, k_turn, k_dturn, ok_ok, ok_opt, bl_bl, List.getElem?_cons_zero, List.getElem?_cons_succ, Option.join_some, List.set_cons_succ, List.set_cons_zero, own_int, own_str, b_add, b_sub, k_intI, c_eqI, c_neI, c_lt, c_ge, c_gt, List.length_cons, List.length_nil, List.cons_append, List.nil_append, Nat.zero_add, lim_ok, Nat.reduceAdd, Nat.reduceLeDiff, true_and, ne_eq, reduceCtorEq, not_false_eq_true, and_true, bk_str, List.cons.injEq, Val.int.injEq, wipeE, lock_none, unlock_none, if_T, if_F, Bool.false_eq_true, c_ltI, c_leI, k_sl, k_part, k_pnone, sl_str, tm_join, Option.some.injEq, exists_eq_left', exists_eq_left, k_seq, e1, e3, c_ninS ht4.2]
      by_cases hyt : y ∈ tk
      · simp only [hyt, decide_true, Bool.not_true, Bool.false_eq_true, if_false]
        refine hK _ _ ?_
        clear hK K
        simp -implicitDefEqProofs only [k_asg, k_setE, k_asg2, k_par2, k_ret, k_expr, k_if, k_nx, k_bk, k_ct, k_var, k_lit, k_bin, k_then, k_bf, k_nil, k_cons, k_f1, k_new, k_al, k_tup, k_lst, k_call, k_and, k_or, k_not, k_ifx, k_tru, k_tcmp, k_tand, k_tor, k_tnot, k_chain, k_tchn, k_ttrue, k_fld, k_make, k_meth, k_bmX, k_sub, k_setF, k_lc, k_dc, k_for, k_ival, k_iitems, k_irng, k_turn, k_dturn, ok_ok, ok_opt, bl_bl, List.getElem?_cons_zero, List.getElem?_cons_succ, Option.join_some, List.set_cons_succ, List.set_cons_zero, own_int, own_str, b_add, b_sub, k_intI, c_eqI, c_neI, c_lt, c_ge, c_gt, List.length_cons, List.length_nil, List.cons_append, List.nil_append, Nat.zero_add, lim_ok, Nat.reduceAdd, Nat.reduceLeDiff, true_and, ne_eq, reduceCtorEq, not_false_eq_true, and_true, bk_str, List.cons.injEq, Val.int.injEq, wipeE, lock_none, unlock_none, if_T, if_F, Bool.false_eq_true, c_ltI, c_leI, k_sl, k_part, k_pnone, sl_str, tm_join, Option.some.injEq, exists_eq_left', exists_eq_left, k_seq, src_strV]
        refine ⟨le_lim (show (strV (Str.ofString "abcdefghijklmnopqrstuvwxyz")).length ≤ 100 by decide +kernel), ?_⟩
        refine (lc_fun (fun v => match v with | .str s => some (.str ((Str.ofString "z") ++ s)) | _ => none) _ [] h4 ?_).imp ?_
        · intro v hv h5 l5
          obtain ⟨s, rfl, hs⟩ : ∃ s, v = .str s ∧ s.length = 1 := by
            unfold strV at hv
            obtain ⟨ch, _, rfl⟩ := List.mem_map.mp hv
            exact ⟨_, rfl, rfl⟩
          have e6 : ((env.set 6 none).set 6 (some (Val.str s)))[6]? = some (some (.str s)) := by simp [el]
          simp -implicitDefEqProofs only [k_asg, k_setE, k_asg2, k_par2, k_ret, k_expr, k_if, k_nx, k_bk, k_ct, k_var, k_lit, k_bin, k_then, k_bf, k_nil, k_cons, k_f1, k_new, k_al, k_tup, k_lst, k_call, k_and, k_or, k_not, k_ifx, k_tru, k_tcmp, k_tand, k_tor, k_tnot, k_chain, k_tchn, k_ttrue, k_fld, k_make, k_meth, k_bmX, k_sub, k_setF, k_lc, k_dc, k_for, k_ival, k_iitems, k_irng, k_turn, k_dturn, ok_ok, ok_opt, bl_bl, List.getElem?_cons_zero, List.getElem?_cons_succ, Option.join_some, List.set_cons_succ, List.set_cons_zero, own_int, own_str, b_add, b_sub, k_intI, c_eqI, c_neI, c_lt, c_ge, c_gt, List.length_cons, List.length_nil, List.cons_append, List.nil_append, Nat.zero_add, lim_ok, Nat.reduceAdd, Nat.reduceLeDiff, true_and, ne_eq, reduceCtorEq, not_false_eq_true, and_true, bk_str, List.cons.injEq, Val.int.injEq, wipeE, lock_none, unlock_none, if_T, if_F, Bool.false_eq_true, c_ltI, c_leI, k_sl, k_part, k_pnone, sl_str, tm_join, Option.some.injEq, exists_eq_left', exists_eq_left, e6, b_addS (x := "z") (y := s) (by rw [hs]; exact le_lim (by decide))]
          exact Fr.refl _ _
        · rintro ys h5 ⟨l5, rfl⟩
          have hzs : (strV (Str.ofString "abcdefghijklmnopqrstuvwxyz")).filterMap (fun v => match v with | .str s => some (Val.str ((Str.ofString "z") ++ s)) | _ => none) = ((List.range 26).map fun i => (⟨#[122, i + 97]⟩ : Str)).map Val.str := by kernel_rfl
          rw [List.nil_append, hzs]
          simp -implicitDefEqProofs only [k_asg, k_setE, k_asg2, k_par2, k_ret, k_expr, k_if, k_nx, k_bk, k_ct, k_var, k_lit, k_bin, k_then, k_bf, k_nil, k_cons, k_f1, k_new, k_al, k_tup, k_lst, k_call, k_and, k_or, k_not, k_ifx, k_tru, k_tcmp, k_tand, k_tor, k_tnot, k_chain, k_tchn, k_ttrue, k_fld, k_make, k_meth, k_bmX, k_sub, k_setF, k_lc, k_dc, k_for, k_ival, k_iitems, k_irng, k_turn, k_dturn, ok_ok, ok_opt, bl_bl, List.getElem?_cons_zero, List.getElem?_cons_succ, Option.join_some, List.set_cons_succ, List.set_cons_zero, own_int, own_str, b_add, b_sub, k_intI, c_eqI, c_neI, c_lt, c_ge, c_gt, List.length_cons, List.length_nil, List.cons_append, List.nil_append, Nat.zero_add, lim_ok, Nat.reduceAdd, Nat.reduceLeDiff, true_and, ne_eq, reduceCtorEq, not_false_eq_true, and_true, bk_str, List.cons.injEq, Val.int.injEq, wipeE, lock_none, unlock_none, if_T, if_F, Bool.false_eq_true, c_ltI, c_leI, k_sl, k_part, k_pnone, sl_str, tm_join, Option.some.injEq, exists_eq_left', exists_eq_left, src_lst (rd_new (h := h5) (b := B.lst (((List.range 26).map fun i => (⟨#[122, i + 97]⟩ : Str)).map Val.str)) rfl)]
          refine ⟨le_lim (by simp), ?_⟩
          have l6 : Lx h5 (h5 ++ [(false, B.lst (((List.range 26).map fun i => (⟨#[122, i + 97]⟩ : Str)).map Val.str))]) := Fr.app _ _ _
          have ht6 := ((ht4.lx l5).lx l6).lock (some h5.length)
          have S6 := (l6.src (l5.src S4)).lock (lk := some h5.length) (by rintro k ⟨⟩; exact Nat.lt_of_lt_of_le S4.lt l5.len)
          have l7 := Fr.trans (l5.le) l6.le
          generalize hg : h5 ++ [(false, B.lst (((List.range 26).map fun i => (⟨#[122, i + 97]⟩ : Str)).map Val.str))] = h6 at *
          refine (lc_fun (fun v => match v with | .str s => if s ∈ tk then none else some (.str s) | _ => none) _ [] _ ?_).imp ?_
          · intro v hv h7 l7
            obtain ⟨s, hs, rfl⟩ := List.mem_map.mp hv
            have e7 : ((env.set 5 none).set 5 (some (Val.str s)))[5]? = some (some (.str s)) := by simp [el]
            have e8 : ((env.set 5 none).set 5 (some (Val.str s)))[1]? = some (some (.ref t)) := by simp [e1]
            simp -implicitDefEqProofs only [k_asg, k_setE, k_asg2, k_par2, k_ret, k_expr, k_if, k_nx, k_bk, k_ct, k_var, k_lit, k_bin, k_then, k_bf, k_nil, k_cons, k_f1, k_new, k_al, k_tup, k_lst, k_call, k_and, k_or, k_not, k_ifx, k_tru, k_tcmp, k_tand, k_tor, k_tnot, k_chain, k_tchn, k_ttrue, k_fld, k_make, k_meth, k_bmX, k_sub, k_setF, k_lc, k_dc, k_for, k_ival, k_iitems, k_irng, k_turn, k_dturn, ok_ok, ok_opt, bl_bl, List.getElem?_cons_zero, List.getElem?_cons_succ, Option.join_some, List.set_cons_succ, List.set_cons_zero, own_int, own_str, b_add, b_sub, k_intI, c_eqI, c_neI, c_lt, c_ge, c_gt, List.length_cons, List.length_nil, List.cons_append, List.nil_append, Nat.zero_add, lim_ok, Nat.reduceAdd, Nat.reduceLeDiff, true_and, ne_eq, reduceCtorEq, not_false_eq_true, and_true, bk_str, List.cons.injEq, Val.int.injEq, wipeE, lock_none, unlock_none, if_T, if_F, Bool.false_eq_true, c_ltI, c_leI, k_sl, k_part, k_pnone, sl_str, tm_join, Option.some.injEq, exists_eq_left', exists_eq_left, e7, e8, c_ninS (ht6.lx l7).2]
            by_cases hst : s ∈ tk
            · simp only [hst, decide_true, Bool.not_true, Bool.false_eq_true, if_false, if_true, true_and]
              exact Fr.refl _ _
            · simp only [hst, decide_false, Bool.not_false, if_true, if_false, true_and]
              exact Fr.refl _ _
          · rintro ys h7 ⟨l8, rfl⟩
            have l9 := Fr.unlock l8
            have S7 := Sr.unlock (h1 := h6) (lk := some h5.length) (l8.src S6) (by rintro k ⟨⟩; exact Nat.lt_of_lt_of_le S4.lt l5.len)
            generalize unlockH h6 h7 (some h5.length) = h8 at *
            rw [ix_lst (rd_new rfl)]
            have hne : ∃ i, i < 26 ∧ (⟨#[122, i + 97]⟩ : Str) ∉ tk := by
              apply Classical.byContradiction
              intro hno
              have hsub : ((List.range 26).map fun i => (⟨#[122, i + 97]⟩ : Str)) ⊆ tk := by
                intro s hs
                obtain ⟨i, hi, rfl⟩ := List.mem_map.mp hs
                apply Classical.byContradiction
                intro hn
                exact hno ⟨i, List.mem_range.mp hi, hn⟩
              have := List.Nodup.length_le_of_subset (by decide +kernel) hsub
              simp at this
              omega
            rw [List.nil_append, List.filterMap_map]
            have : ∃ s, ((List.range 26).map fun i => (⟨#[122, i + 97]⟩ : Str)).filter (fun s => decide (s ∉ tk)) |>.head? |> (· = some s) := by
              obtain ⟨i, hi, hn⟩ := hne
              cases hh : (((List.range 26).map fun i => (⟨#[122, i + 97]⟩ : Str)).filter (fun s => decide (s ∉ tk))).head? with
              | some s => exact ⟨s, rfl⟩
              | none =>
                rw [List.head?_eq_none_iff, List.filter_eq_nil_iff] at hh
                exact absurd (hh _ (List.mem_map.mpr ⟨i, List.mem_range.mpr hi, rfl⟩)) (by simp [hn])
            obtain ⟨s, hs⟩ := this
            have hfm : ∀ l : List Str, List.filterMap ((fun v => match v with | .str s => if s ∈ tk then none else some (Val.str s) | _ => none) ∘ Val.str) l = (l.filter (fun s => decide (s ∉ tk))).map Val.str := by
              intro l
              induction l with
              | nil => rfl
              | cons a l ih =>
                rw [List.filterMap_cons]
                by_cases ha : a ∈ tk
                · simp [ha, ih]
                · simp [ha, ih]
            rw [hfm]
            have hat : atI ((((List.range 26).map fun i => (⟨#[122, i + 97]⟩ : Str)).filter (fun s => decide (s ∉ tk))).map Val.str) 0 = some (.str s) := by
              generalize ((List.range 26).map fun i => (⟨#[122, i + 97]⟩ : Str)).filter (fun s => decide (s ∉ tk)) = l at hs
              cases l with
              | nil => cases hs
              | cons a l => cases hs; rw [atI_nat (by decide) (by simp)]; rfl
            rw [hat, ok_opt]
            have hmem : s ∈ ((List.range 26).map fun i => (⟨#[122, i + 97]⟩ : Str)).filter (fun s => decide (s ∉ tk)) := List.mem_of_head? hs
            rw [List.mem_filter] at hmem
            obtain ⟨i, hi, rfl⟩ := List.mem_map.mp hmem.1
            have hi := List.mem_range.mp hi
            refine ⟨_, rfl, nm_lit ⟨by show 1 ≤ 2; decide, by show 2 ≤ 8; decide, ?_⟩ (by show ¬ (3 < 2 ∧ 2 < 8); decide), by simpa using hmem.2, ?_, S7.app _⟩
            · intro ch hch
              rcases List.mem_cons.mp hch with rfl | hch
              · decide
              · rw [List.mem_singleton.mp hch]; unfold Lw; omega
            · exact (l4.trans (l7.trans l9.le)).trans (Fr.app _ _ _)
      · simp only [hyt, decide_false, Bool.not_false, if_true]
        exact ⟨y, rfl, hy, hyt, l4, S4⟩
    with_reducible refine k_seqK fun K hK => ?_
    simp -implicitDefEqProofs only [k_asg, k_setE, k_asg2, k_par2, k_ret, k_expr, k_if, k_nx, k_bk, k_ct, k_var, k_lit, k_bin, k_then, k_bf, k_nil, k_cons, k_f1, k_new, k_al, k_tup, k_lst, k_call, k_and, k_or, k_not, k_ifx, k_tru, k_tcmp, k_tand, k_tor, k_tnot, k_chain, k_tchn, k_ttrue, k_fld, k_make, k_meth, k_bmX, k_sub, k_setF, k_lc, k_dc, k_for, k_ival, k_iitems, k_irng, k_turn, k_dturn, ok_ok, ok_opt, bl_bl, List.getElem?_cons_zero, List.getElem?_cons_succ, Option.join_some, List.set_cons_succ, List.set_cons_zero, own_int, own_str, b_add, b_sub, k_intI, c_eqI, c_neI, c_lt, c_ge, c_gt, List.length_cons, List.length_nil, List.cons_append, List.nil_append, Nat.zero_add, lim_ok, Nat.reduceAdd, Nat.reduceLeDiff, true_and, ne_eq, reduceCtorEq, not_false_eq_true, and_true, bk_str, List.cons.injEq, Val.int.injEq, wipeE, lock_none, unlock_none, if_T, if_F, Bool.false_eq_true, c_ltI, c_leI, k_sl, k_part, k_pnone, sl_str, tm_join, Option.some.injEq, exists_eq_left', exists_eq_left, k_seq]
    by_cases hz3 : (3 : Int) < z
    · rw [decide_eq_true hz3, if_pos rfl]
      by_cases hz8 : (z : Int) < 8
      · rw [decide_eq_true hz8, if_pos rfl]
        have hcut : (cutS x (some 1) none).cps.toList = chs.drop 1 := by
          unfold cutS
          show ((x.cps.toList.drop (HT.sIx x.length 0 (some ((1 : Nat) : Int)))).take (x.length - HT.sIx x.length 0 (some ((1 : Nat) : Int)))) = _
          rw [HT.sIx_nat, hjl, hj, Nat.min_eq_left (by omega), List.take_of_length_le (by rw [List.length_drop, e2]; omega)]
        have hcl : (cutS x (some 1) none).length = z - 1 := by
          show (cutS x (some 1) none).cps.size = _
          rw [← Array.length_toList, hcut, List.length_drop, e2]
        have hq : (Str.ofString "q").length = 1 := by decide
        rw [b_addS (by rw [hq, hcl]; exact le_lim (by omega)), ok_ok]
        refine pick (m := 7) hd S3 (by omega) (by rfl) (by decide) (by simp) fun v h4 hv l4 S4 => ?_
        obtain ⟨y, rfl, hy⟩ : ∃ y, v = .str y ∧ Nm y := by
          simp only [List.mem_cons, List.not_mem_nil, or_false] at hv
          rcases hv with rfl | rfl | rfl | rfl | rfl | rfl | rfl
          · exact ⟨_, rfl, nm_lit (by decide) (by decide)⟩
          · exact ⟨_, rfl, nm_lit (by decide) (by decide)⟩
          · exact ⟨_, rfl, nm_lit (by decide) (by decide)⟩
          · exact ⟨_, rfl, nm_lit (by decide) (by decide)⟩
          · exact ⟨_, rfl, nm_lit (by decide) (by decide)⟩
          · exact ⟨_, rfl, ⟨by decide, fun _ _ => .inl rfl⟩⟩
          · have htl : ((Str.ofString "q") ++ cutS x (some 1) none).cps.toList = 113 :: chs.drop 1 := by
              rw [show ((Str.ofString "q") ++ cutS x (some 1) none).cps.toList = (Str.ofString "q").cps.toList ++ (cutS x (some 1) none).cps.toList from TL.tl_append _ _, hcut, show (Str.ofString "q").cps.toList = [113] by decide]
              rfl
            refine ⟨_, rfl, ⟨by rw [len_app, hq, hcl]; omega, by rw [len_app, hq, hcl]; omega, ?_⟩, fun _ _ => .inr (by rw [htl]; rfl)⟩
            rw [htl]
            intro ch hch
            rcases List.mem_cons.mp hch with rfl | hch
            · decide
            · exact e3 ch (List.mem_of_mem_drop hch)
        exact hK _ _ (ends y h4 _ rfl rfl rfl rfl hy (l3.trans l4) (S4.mono (by omega)))
      · rw [decide_eq_false hz8, if_neg Bool.false_ne_true]
        exact hK _ _ (ends x h3 _ rfl rfl rfl rfl (nm_lit hIs (by omega)) l3 (S3.mono (by omega)))
    · rw [decide_eq_false hz3, if_neg Bool.false_ne_true]
      exact hK _ _ (ends x h3 _ rfl rfl rfl rfl (nm_lit hIs (by omega)) l3 (S3.mono (by omega)))
end MP
end

section
/-! MP, part QM: dicts by texts, plain. -/
set_option autoImplicit false
set_option linter.all false
set_option maxRecDepth 10000
namespace MP
open PySem L2
section
variable {α : Type}
/-- a dict by texts -/
def dS (f : α → Val) (l : List (Str × α)) : List (Key × Val) := l.map fun p => (.inr p.1, f p.2)
theorem look_dS (f : α → Val) (x : Str) : ∀ l : List (Str × α), lookK (dS f l) (.inr x) = (l.lookup x).map f
  | [] => rfl
  | (y, a) :: r => by
    unfold lookK dS
    rw [List.map_cons, List.find?_cons, List.lookup_cons]
    by_cases h : y = x
    · subst h; simp
    · have h' : (x == y) = false := by simpa using fun e => h e.symm
      simp only [Sum.inr.injEq, h, decide_false, h']
      exact look_dS f x r
theorem keys_dS (f : α → Val) : ∀ l : List (Str × α), keysS (dS f l) = some (l.map (·.1))
  | [] => rfl
  | (y, a) :: r => by unfold dS; rw [List.map_cons, keysS]; rw [show keysS (r.map fun p => ((Sum.inr p.1 : Key), f p.2)) = _ from keys_dS f r]; rfl
theorem vkeys_dS (f : α → Val) (l : List (Str × α)) : ((dS f l).map fun kv => vKey kv.1) = (l.map (·.1)).map Val.str := by
  unfold dS; rw [List.map_map, List.map_map]; rfl
theorem vkeys_dS' (f : α → Val) (l : List (Str × α)) : ((dS f l).map (·.1)).map vKey = (l.map (·.1)).map Val.str := by
  unfold dS; rw [List.map_map, List.map_map, List.map_map]; rfl
theorem itms_dS (f : α → Val) (l : List (Str × α)) : ((dS f l).map fun kv => Val.tup [vKey kv.1, kv.2]) = l.map fun p => Val.tup [.str p.1, f p.2] := by
  unfold dS; rw [List.map_map]; rfl
theorem vals_dS (f : α → Val) (l : List (Str × α)) : (dS f l).map (·.2) = l.map fun p => f p.2 := by
  unfold dS; rw [List.map_map]; rfl
theorem len_dS (f : α → Val) (l : List (Str × α)) : (dS f l).length = l.length := by unfold dS; rw [List.length_map]
theorem pairs_dS (f : α → Val) : ∀ l : List (Str × α), pairsV (l.map fun p => Val.tup [.str p.1, f p.2]) = some (dS f l)
  | [] => rfl
  | (y, a) :: r => by rw [List.map_cons, pairsV, pairs_dS f r]; rfl
/-- putting -/
def putS (x : Str) (a : α) : List (Str × α) → List (Str × α)
  | [] => [(x, a)]
  | (y, b) :: r => if y = x then (y, a) :: r else (y, b) :: putS x a r
theorem any_key (x : Str) (f : α → Val) (l : List (Str × α)) : ((dS f l).any fun kv => decide (kv.1 = Sum.inr x)) = decide (x ∈ l.map (·.1)) := by
  unfold dS
  rw [List.any_map, Bool.eq_iff_iff, List.any_eq_true, decide_eq_true_eq, List.mem_map]
  constructor
  · rintro ⟨p, hp, e⟩
    exact ⟨p, hp, by simpa using e⟩
  · rintro ⟨p, hp, rfl⟩
    exact ⟨p, hp, by simp⟩
theorem putS_new (x : Str) (a : α) : ∀ l : List (Str × α), x ∉ l.map (·.1) → putS x a l = l ++ [(x, a)]
  | [], _ => rfl
  | (y, b) :: r, h => by
    rw [List.map_cons, List.mem_cons, not_or] at h
    unfold putS
    rw [if_neg (fun e => h.1 e.symm), putS_new x a r h.2]; rfl
theorem setK_dS (f : α → Val) (x : Str) (a : α) (l : List (Str × α)) (hn : (l.map (·.1)).Nodup) : setK (dS f l) (.inr x) (f a) = dS f (putS x a l) := by
  unfold setK
  rw [any_key]
  by_cases h : x ∈ l.map (·.1)
  · rw [decide_eq_true h, if_pos rfl]
    induction l with
    | nil => exact absurd h List.not_mem_nil
    | cons p r ih =>
      obtain ⟨y, b⟩ := p
      rw [List.map_cons, List.nodup_cons] at hn
      unfold putS
      by_cases e : y = x
      · subst e
        rw [if_pos rfl]
        unfold dS
        rw [List.map_cons, List.map_cons, List.map_cons, if_pos rfl]
        congr 1
        rw [List.map_map]
        refine List.map_congr_left fun q hq => ?_
        have : q.1 ≠ y := fun e => hn.1 (e ▸ List.mem_map.mpr ⟨q, hq, rfl⟩)
        simp [this]
      · rw [if_neg e]
        have h' : x ∈ r.map (·.1) := (List.mem_cons.mp h).resolve_left fun z => e z.symm
        have := ih hn.2 h'
        unfold dS at this ⊢
        rw [List.map_cons, List.map_cons, List.map_cons, this]
        simp [e]
  · rw [decide_eq_false h, if_neg Bool.false_ne_true, putS_new x a l h]
    unfold dS
    rw [List.map_append]; rfl
theorem putS_keys (x : Str) (a : α) : ∀ l : List (Str × α), (putS x a l).map (·.1) = if x ∈ l.map (·.1) then l.map (·.1) else l.map (·.1) ++ [x]
  | [] => rfl
  | (y, b) :: r => by
    unfold putS
    by_cases e : y = x
    · subst e; simp
    · rw [if_neg e, List.map_cons, putS_keys x a r, List.map_cons]
      by_cases h : x ∈ r.map (·.1)
      · rw [if_pos h, if_pos (List.mem_cons_of_mem _ h)]
      · rw [if_neg h, if_neg (fun z => (List.mem_cons.mp z).elim (fun z => e z.symm) h)]; rfl
theorem putS_nodup (x : Str) (a : α) (l : List (Str × α)) (h : (l.map (·.1)).Nodup) : ((putS x a l).map (·.1)).Nodup := by
  rw [putS_keys]
  split
  · exact h
  · rename_i hx
    exact List.nodup_append.mpr ⟨h, List.nodup_cons.mpr ⟨List.not_mem_nil, List.nodup_nil⟩, fun a ha b hb => by rw [List.mem_singleton.mp hb]; exact fun e => hx (e ▸ ha)⟩
theorem putS_look (x : Str) (a : α) (y : Str) : ∀ l : List (Str × α), (putS x a l).lookup y = if y = x then some a else l.lookup y
  | [] => by
    unfold putS; rw [List.lookup_cons]
    by_cases h : y = x
    · simp [h]
    · rw [show (y == x) = false by simpa using h, if_neg h]
  | (z, b) :: r => by
    unfold putS
    by_cases e : z = x
    · subst e
      rw [if_pos rfl, List.lookup_cons, List.lookup_cons]
      by_cases h : y = z
      · simp [h]
      · rw [show (y == z) = false by simpa using h, if_neg h]
    · rw [if_neg e, List.lookup_cons, putS_look x a y r, List.lookup_cons]
      by_cases h : y = z
      · subst h; simp [e]
      · have : (y == z) = false := by simpa using h
        simp [this]
/-- merging -/
def merS (acc more : List (Str × α)) : List (Str × α) := more.foldl (fun acc p => putS p.1 p.2 acc) acc
theorem merK_dS (f : α → Val) : ∀ (more acc : List (Str × α)), (acc.map (·.1)).Nodup → merK (dS f acc) (dS f more) = dS f (merS acc more)
  | [], acc, _ => rfl
  | (x, a) :: r, acc, h => by
    show merK (setK (dS f acc) (.inr x) (f a)) (dS f r) = dS f (merS (putS x a acc) r)
    rw [setK_dS f x a acc h]
    exact merK_dS f r _ (putS_nodup x a acc h)
theorem merS_nodup : ∀ (more acc : List (Str × α)), (acc.map (·.1)).Nodup → ((merS acc more).map (·.1)).Nodup
  | [], acc, h => h
  | (x, a) :: r, acc, h => merS_nodup r _ (putS_nodup x a acc h)
theorem merS_new : ∀ (more acc : List (Str × α)), ((acc ++ more).map (·.1)).Nodup → merS acc more = acc ++ more
  | [], acc, _ => by simp [merS]
  | (x, a) :: r, acc, h => by
    have hx : x ∉ acc.map (·.1) := by
      rw [List.map_append, List.nodup_append] at h
      exact fun hx => h.2.2 x hx x List.mem_cons_self rfl
    show merS (putS x a acc) r = _
    rw [putS_new x a acc hx, merS_new r (acc ++ [(x, a)]) (by simpa using h)]
    simp
theorem mer0 (l : List (Str × α)) (h : (l.map (·.1)).Nodup) : merS [] l = l := merS_new l [] h
theorem lookup_mem {l : List (Str × α)} {x : Str} {a : α} (h : l.lookup x = some a) : (x, a) ∈ l := by
  induction l with
  | nil => cases h
  | cons p r ih =>
    obtain ⟨y, b⟩ := p
    rw [List.lookup_cons] at h
    by_cases e : x = y
    · subst e; simp at h; subst h; exact List.mem_cons_self
    · have : (x == y) = false := by simpa using e
      rw [this] at h
      exact List.mem_cons_of_mem _ (ih h)
theorem lookup_key {l : List (Str × α)} {x : Str} : (l.lookup x).isSome = true ↔ x ∈ l.map (·.1) := by
  induction l with
  | nil => simp
  | cons p r ih =>
    obtain ⟨y, b⟩ := p
    rw [List.lookup_cons]
    by_cases e : x = y
    · subst e; simp
    · have : (x == y) = false := by simpa using e
      rw [this]
      simp only [List.map_cons, List.mem_cons, e, false_or]
      exact ih
theorem lookup_of {l : List (Str × α)} {x : Str} {a : α} (hn : (l.map (·.1)).Nodup) (h : (x, a) ∈ l) : l.lookup x = some a := by
  induction l with
  | nil => exact absurd h List.not_mem_nil
  | cons p r ih =>
    obtain ⟨y, b⟩ := p
    rw [List.map_cons, List.nodup_cons] at hn
    rw [List.lookup_cons]
    rcases List.mem_cons.mp h with e | h
    · cases e; simp
    · have : (x == y) = false := by
        have : x ≠ y := fun e => hn.1 (e ▸ List.mem_map.mpr ⟨_, h, rfl⟩)
        simpa using this
      rw [this]
      exact ih hn.2 h
end
/-! ### numbers by names -/
def look0 (l : List (Str × Int)) (x : Str) : Int := (l.lookup x).getD 0
abbrev dI : List (Str × Int) → List (Key × Val) := dS Val.int
/-- without noughts, the names ascending -/
def lessL (l : List (Str × Int)) : List (Str × Int) := ((sortS (l.map (·.1))).filter fun x => decide (look0 l x ≠ 0)).map fun x => (x, look0 l x)
theorem lessL_keys (l : List (Str × Int)) : (lessL l).map (·.1) = (sortS (l.map (·.1))).filter fun x => decide (look0 l x ≠ 0) := by
  unfold lessL
  rw [List.map_map]
  exact List.map_id'' (fun x => rfl) _
theorem lessL_nodup (l : List (Str × Int)) (h : (l.map (·.1)).Nodup) : ((lessL l).map (·.1)).Nodup := by
  rw [lessL_keys]
  exact List.Pairwise.filter _ ((sortS_perm _).nodup_iff.mpr h)
theorem look0_mem {l : List (Str × Int)} {x : Str} (h : look0 l x ≠ 0) : x ∈ l.map (·.1) := by
  rw [← lookup_key]
  unfold look0 at h
  cases e : l.lookup x with
  | none => rw [e] at h; exact absurd rfl h
  | some a => rfl
theorem lookup_map {g : Str → Int} {x : Str} : ∀ ks : List Str, (ks.map fun y => (y, g y)).lookup x = if x ∈ ks then some (g x) else none
  | [] => rfl
  | y :: r => by
    rw [List.map_cons, List.lookup_cons, lookup_map r]
    by_cases e : x = y
    · subst e; simp
    · have : (x == y) = false := by simpa using e
      simp [this, e]
theorem lessL_look (l : List (Str × Int)) (x : Str) : look0 (lessL l) x = look0 l x := by
  show ((lessL l).lookup x).getD 0 = _
  unfold lessL
  rw [lookup_map]
  by_cases h : look0 l x = 0
  · rw [if_neg (by simp [h]), h]; rfl
  · rw [if_pos (List.mem_filter.mpr ⟨(sortS_perm _).mem_iff.mpr (look0_mem h), by simpa using h⟩)]; rfl
theorem up_filter {p : Str → Bool} {l : List Str} (h : Up l) : Up (l.filter p) := List.Pairwise.filter p h
theorem lessL_eq {l m : List (Str × Int)} (hl : (l.map (·.1)).Nodup) (hm : (m.map (·.1)).Nodup) (h : ∀ x, look0 l x = look0 m x) : lessL l = lessL m := by
  have e : ((sortS (l.map (·.1))).filter fun x => decide (look0 l x ≠ 0)) = ((sortS (m.map (·.1))).filter fun x => decide (look0 m x ≠ 0)) := by
    refine up_unique (up_filter (sortS_up _)) (up_filter (sortS_up _)) ?_
    refine (List.perm_ext_iff_of_nodup (List.Pairwise.filter _ ((sortS_perm _).nodup_iff.mpr hl)) (List.Pairwise.filter _ ((sortS_perm _).nodup_iff.mpr hm))).mpr fun x => ?_
    rw [List.mem_filter, List.mem_filter, (sortS_perm _).mem_iff, (sortS_perm _).mem_iff, ← h x]
    simp only [decide_eq_true_eq]
    exact ⟨fun q => ⟨look0_mem (by rw [← h x]; exact q.2), q.2⟩, fun q => ⟨look0_mem q.2, q.2⟩⟩
  unfold lessL
  rw [e]
  exact List.map_congr_left fun x _ => by rw [h x]
/-- the numbers of all keys -/
theorem keys_look (l : List (Str × Int)) (h : (l.map (·.1)).Nodup) : (l.map (·.1)).map (look0 l) = l.map (·.2) := by
  rw [List.map_map]
  refine List.map_congr_left fun p hp => ?_
  show look0 l p.1 = p.2
  unfold look0
  rw [lookup_of h hp]; rfl
theorem sum_filter (g : Str → Int) : ∀ l : List Str, ((l.filter fun x => decide (g x ≠ 0)).map g).sum = (l.map g).sum
  | [] => rfl
  | x :: r => by
    rw [List.filter_cons]
    by_cases h : g x = 0
    · rw [if_neg (by simp [h]), sum_filter g r, List.map_cons, List.sum_cons, h]; omega
    · rw [if_pos (by simp [h]), List.map_cons, List.sum_cons, sum_filter g r, List.map_cons, List.sum_cons]
theorem perm_sum {l m : List Int} (h : l.Perm m) : l.sum = m.sum := by
  induction h with
  | nil => rfl
  | cons x _ ih => rw [List.sum_cons, List.sum_cons, ih]
  | swap x y l => simp only [List.sum_cons]; omega
  | trans _ _ a b => rw [a, b]
theorem lessL_sum (l : List (Str × Int)) (h : (l.map (·.1)).Nodup) : ((lessL l).map (·.2)).sum = (l.map (·.2)).sum := by
  unfold lessL
  rw [List.map_map, show ((fun p : Str × Int => p.2) ∘ fun x => (x, look0 l x)) = look0 l from rfl, sum_filter, ← keys_look l h]
  exact perm_sum ((sortS_perm _).map _)
/-! ### == of dicts of numbers -/
theorem eqV_int (i j : Int) (h : Heap) : eqVal (.int i) (.int j) h = some (i == j) := rfl
theorem eqDct_dI (h : Heap) (m : List (Str × Int)) : ∀ l : List (Str × Int), eqDct h (dI m) (dI l) = some (l.all fun p => decide (m.lookup p.1 = some p.2))
  | [] => rfl
  | (x, a) :: r => by
    show (match lookK (dI m) (.inr x) with | none => some false | some u => _) = _
    rw [look_dS]
    cases e : m.lookup x with
    | none => simp [e]
    | some b =>
      show (match eqVal (.int a) (.int b) h, eqDct h (dI m) (dI r) with | some e, some b => some (e && b) | _, _ => none) = _
      rw [eqV_int, eqDct_dI h m r]
      simp only [List.all_cons, e, Option.some.injEq]
      rw [show (a == b) = decide (b = a) by rw [Bool.eq_iff_iff, beq_iff_eq, decide_eq_true_eq]; exact ⟨Eq.symm, Eq.symm⟩]
/-- two dicts without noughts -/
theorem eqDct_less (h : Heap) {l m : List (Str × Int)} (hl : (l.map (·.1)).Nodup) (hm : (m.map (·.1)).Nodup) : (if (dI (lessL l)).length = (dI (lessL m)).length then eqDct h (dI (lessL m)) (dI (lessL l)) else some false) = some (decide (lessL l = lessL m)) := by
  rw [len_dS, len_dS, eqDct_dI]
  by_cases e : lessL l = lessL m
  · rw [if_pos (by rw [e]), decide_eq_true e, e]
    congr 1
    rw [List.all_eq_true]
    intro p hp
    rw [decide_eq_true_eq]
    exact lookup_of (lessL_nodup m hm) hp
  · rw [decide_eq_false e]
    split
    · rename_i hlen
      congr 1
      rw [Bool.eq_false_iff]
      intro hall
      rw [List.all_eq_true] at hall
      apply e
      have hsub : ∀ x ∈ (lessL l).map (·.1), x ∈ (lessL m).map (·.1) := fun x hx => by
        obtain ⟨p, hp, rfl⟩ := List.mem_map.mp hx
        have := hall p hp
        rw [decide_eq_true_eq] at this
        exact lookup_key.mp (by rw [this]; rfl)
      have hk : (lessL l).map (·.1) = (lessL m).map (·.1) := by
        rw [lessL_keys, lessL_keys]
        refine up_unique (up_filter (sortS_up _)) (up_filter (sortS_up _)) ?_
        rw [← lessL_keys, ← lessL_keys]
        refine (List.perm_ext_iff_of_nodup (lessL_nodup l hl) (lessL_nodup m hm)).mpr fun x => ⟨hsub x, fun hx => ?_⟩
        apply Classical.byContradiction
        intro hn
        have := List.Nodup.length_le_of_subset (List.nodup_cons.mpr ⟨hn, lessL_nodup l hl⟩) (l₂ := (lessL m).map (·.1)) (fun y hy => (List.mem_cons.mp hy).elim (fun e => e ▸ hx) (hsub y))
        simp at this
        omega
      have h1 : ∀ x, look0 (lessL l) x = look0 (lessL m) x := fun x => by
        by_cases hx : x ∈ (lessL l).map (·.1)
        · obtain ⟨p, hp, rfl⟩ := List.mem_map.mp hx
          have := hall p hp
          rw [decide_eq_true_eq] at this
          unfold look0
          rw [this, lookup_of (lessL_nodup l hl) hp]
        · have hx' : x ∉ (lessL m).map (·.1) := by rw [← hk]; exact hx
          rw [← lookup_key] at hx hx'
          unfold look0
          rw [Option.not_isSome_iff_eq_none.mp hx, Option.not_isSome_iff_eq_none.mp hx']
      exact lessL_eq hl hm fun x => by rw [← lessL_look l x, ← lessL_look m x, h1 x]
    · rfl
end MP
end

section
/-! MP, part QN: drawn lists of names; tests of names. -/
set_option autoImplicit false
set_option linter.all false
set_option maxRecDepth 10000
namespace MP
open PySem L2
abbrev Cl := List Val → Heap → Rs Val
theorem tr_bl {b : Bool} {h : Heap} {p q : Prop} : Tr (.bl b) h p q = if b then p else q := by cases b <;> rfl
theorem m_append {h : Heap} {a : Nat} {xs : List Val} {y : Val} (e : h[a]? = some (false, .lst xs)) (hl : xs.length < lim) : mAppend (.ref a) [y] h = .ok .non (h.set a (false, .lst (xs ++ [y]))) := by
  unfold mAppend
  simp only [e, hl, if_true]
def NameOk (c : Cl) : Prop := ∀ (h : Heap) (t : Nat) (tk : List Str) (n : Int), Sr h 0 n → n < 80000 → At h t (.lst (tk.map Val.str)) → tk.length < 26 → Ok (c [.ref 0, .ref t] h) fun v h' => ∃ x, v = .str x ∧ Nm x ∧ x ∉ tk ∧ Le h h' ∧ Sr h' 0 (n + 10)
def namesS (c : Cl) : Fs :=
  sSeq (sAsg (eLst (aNil)) (gNm 2)) (sSeq (sFor (iRng1 (eCons (xVar 1) (aNil))) (gNm 3) (sSeq (sExpr (eBm (bmT "append") (xVar 2) (eCons (eCall 2 c [] (eCons (xVar 0) (eCons (xVar 2) (aNil)))) (aNil)))) (sNx))) (sSeq (sRet (xVar 2)) (sNx)))
theorem names_ok {c : Cl} {h : Heap} {n : Int} {m : Nat} (hc : NameOk c) (hS : Sr h 0 n) (hn : n < 70000) (hm : m < 26) {nx bk ct : Env → Heap → Prop} :
    OkS (namesS c [some (.ref 0), some (.int m), none, none] h) nx (fun v h' => ∃ (a : Nat) (xs : List Str), v = .ref a ∧ Aw h' a (.lst (xs.map Val.str)) ∧ xs.length = m ∧ xs.Nodup ∧ (∀ x ∈ xs, Nm x) ∧ Le h h' ∧ Sr h' 0 (n + 10 * m)) bk ct := by
  unfold namesS
  with_reducible refine k_seqK fun K hK => ?_
  simp -implicitDefEqProofs only [k_asg, k_setE, k_asg2, k_par2, k_ret, k_expr, k_if, k_nx, k_bk, k_ct, k_var, k_lit, k_bin, k_then, k_bf, k_nil, k_cons, k_f1, k_new, k_al, k_tup, k_lst, k_call, k_and, k_or, k_not, k_ifx, k_tru, k_tcmp, k_tand, k_tor, k_tnot, k_chain, k_tchn, k_ttrue, k_fld, k_make, k_meth, k_bmX, k_sub, k_setF, k_lc, k_dc, k_for, k_ival, k_iitems, k_irng, k_turn, k_dturn, ok_ok, ok_opt, bl_bl, List.getElem?_cons_zero, List.getElem?_cons_succ, Option.join_some, List.set_cons_succ, List.set_cons_zero, own_int, own_str, b_add, b_sub, k_intI, c_eqI, c_neI, c_lt, c_ge, c_gt, List.length_cons, List.length_nil, List.cons_append, List.nil_append, Nat.zero_add, lim_ok, Nat.reduceAdd, Nat.reduceLeDiff, true_and, ne_eq, reduceCtorEq, not_false_eq_true, and_true, bk_str, List.cons.injEq, Val.int.injEq, wipeE, lock_none, unlock_none, if_T, if_F, Bool.false_eq_true, c_ltI, c_leI, k_sl, k_part, k_pnone, sl_str, tr_bl, tm_join, tm_append, tm_clearL, tm_clearD, tm_extend, tm_pop, tm_get, tm_split, tm_partition, Option.some.injEq, exists_eq_left', exists_eq_left]
  refine hK _ _ ?_
  clear hK K
  with_reducible refine k_seqK fun K hK => ?_
  simp -implicitDefEqProofs only [k_asg, k_setE, k_asg2, k_par2, k_ret, k_expr, k_if, k_nx, k_bk, k_ct, k_var, k_lit, k_bin, k_then, k_bf, k_nil, k_cons, k_f1, k_new, k_al, k_tup, k_lst, k_call, k_and, k_or, k_not, k_ifx, k_tru, k_tcmp, k_tand, k_tor, k_tnot, k_chain, k_tchn, k_ttrue, k_fld, k_make, k_meth, k_bmX, k_sub, k_setF, k_lc, k_dc, k_for, k_ival, k_iitems, k_irng, k_turn, k_dturn, ok_ok, ok_opt, bl_bl, List.getElem?_cons_zero, List.getElem?_cons_succ, Option.join_some, List.set_cons_succ, List.set_cons_zero, own_int, own_str, b_add, b_sub, k_intI, c_eqI, c_neI, c_lt, c_ge, c_gt, List.length_cons, List.length_nil, List.cons_append, List.nil_append, Nat.zero_add, lim_ok, Nat.reduceAdd, Nat.reduceLeDiff, true_and, ne_eq, reduceCtorEq, not_false_eq_true, and_true, bk_str, List.cons.injEq, Val.int.injEq, wipeE, lock_none, unlock_none, if_T, if_F, Bool.false_eq_true, c_ltI, c_leI, k_sl, k_part, k_pnone, sl_str, tr_bl, tm_join, tm_append, tm_clearL, tm_clearD, tm_extend, tm_pop, tm_get, tm_split, tm_partition, Option.some.injEq, exists_eq_left', exists_eq_left]
  refine ⟨⟨by omega, by omega⟩, ?_⟩
  have hp : 0 < h.length := hS.lt
  refine for_inv (fun xs env h' => ∃ tk : List Str, ∃ o, env = [some (.ref 0), some (.int m), some (.ref h.length), o] ∧ Aw h' h.length (.lst (tk.map Val.str)) ∧ tk.length + xs.length = m ∧ tk.Nodup ∧ (∀ x ∈ tk, Nm x) ∧ Le h h' ∧ Sr h' 0 (n + 10 * tk.length)) _ _ _ ?_ ?_ ?_
  · exact ⟨[], none, rfl, Aw.new hp, by simp [rngV], List.nodup_nil, fun _ h => absurd h List.not_mem_nil, Fr.app _ _ _, by simpa using hS.app _⟩
  · rintro v r env h' ⟨tk, o, rfl, A, hl, hnd, hall, le, S⟩
    rw [List.length_cons] at hl
    simp -implicitDefEqProofs only [okS_lift]
    show OkS _ _ _ _ _
    simp -implicitDefEqProofs only [k_asg, k_setE, k_asg2, k_par2, k_ret, k_expr, k_if, k_nx, k_bk, k_ct, k_var, k_lit, k_bin, k_then, k_bf, k_nil, k_cons, k_f1, k_new, k_al, k_tup, k_lst, k_call, k_and, k_or, k_not, k_ifx, k_tru, k_tcmp, k_tand, k_tor, k_tnot, k_chain, k_tchn, k_ttrue, k_fld, k_make, k_meth, k_bmX, k_sub, k_setF, k_lc, k_dc, k_for, k_ival, k_iitems, k_irng, k_turn, k_dturn, ok_ok, ok_opt, bl_bl, List.getElem?_cons_zero, List.getElem?_cons_succ, Option.join_some, List.set_cons_succ, List.set_cons_zero, own_int, own_str, b_add, b_sub, k_intI, c_eqI, c_neI, c_lt, c_ge, c_gt, List.length_cons, List.length_nil, List.cons_append, List.nil_append, Nat.zero_add, lim_ok, Nat.reduceAdd, Nat.reduceLeDiff, true_and, ne_eq, reduceCtorEq, not_false_eq_true, and_true, bk_str, List.cons.injEq, Val.int.injEq, wipeE, lock_none, unlock_none, if_T, if_F, Bool.false_eq_true, c_ltI, c_leI, k_sl, k_part, k_pnone, sl_str, tr_bl, tm_join, tm_append, tm_clearL, tm_clearD, tm_extend, tm_pop, tm_get, tm_split, tm_partition, Option.some.injEq, exists_eq_left', exists_eq_left, k_seq]
    simp -implicitDefEqProofs only [k_asg, k_setE, k_asg2, k_par2, k_ret, k_expr, k_if, k_nx, k_bk, k_ct, k_var, k_lit, k_bin, k_then, k_bf, k_nil, k_cons, k_f1, k_new, k_al, k_tup, k_lst, k_call, k_and, k_or, k_not, k_ifx, k_tru, k_tcmp, k_tand, k_tor, k_tnot, k_chain, k_tchn, k_ttrue, k_fld, k_make, k_meth, k_bmX, k_sub, k_setF, k_lc, k_dc, k_for, k_ival, k_iitems, k_irng, k_turn, k_dturn, ok_ok, ok_opt, bl_bl, List.getElem?_cons_zero, List.getElem?_cons_succ, Option.join_some, List.set_cons_succ, List.set_cons_zero, own_int, own_str, b_add, b_sub, k_intI, c_eqI, c_neI, c_lt, c_ge, c_gt, List.length_cons, List.length_nil, List.cons_append, List.nil_append, Nat.zero_add, lim_ok, Nat.reduceAdd, Nat.reduceLeDiff, true_and, ne_eq, reduceCtorEq, not_false_eq_true, and_true, bk_str, List.cons.injEq, Val.int.injEq, wipeE, lock_none, unlock_none, if_T, if_F, Bool.false_eq_true, c_ltI, c_leI, k_sl, k_part, k_pnone, sl_str, tr_bl, tm_join, tm_append, tm_clearL, tm_clearD, tm_extend, tm_pop, tm_get, tm_split, tm_partition, Option.some.injEq, exists_eq_left', exists_eq_left, bk_l A.2]
    refine (hc h' h.length tk _ S (by omega) A.at (by omega)).imp ?_
    rintro v' h'' ⟨x, rfl, hx, hxn, le', S'⟩
    have A' := A.le le'
    rw [m_append A'.2 (by rw [List.length_map]; exact Nat.lt_of_lt_of_le (show tk.length < 100 by omega) (le_lim (by decide))), ok_ok]
    refine ⟨tk ++ [x], ⟨hp, ?_⟩, by simp; omega, ?_, ?_, Fr.new (le.trans le') (Nat.le_refl _), ?_⟩
    · rw [List.map_append]; exact set_at A'.2
    · exact List.nodup_append.mpr ⟨hnd, List.nodup_cons.mpr ⟨List.not_mem_nil, List.nodup_nil⟩, fun a ha b hb => by rw [List.mem_singleton.mp hb]; exact fun e => hxn (e ▸ ha)⟩
    · intro y hy
      rcases List.mem_append.mp hy with hy | hy
      · exact hall y hy
      · rw [List.mem_singleton.mp hy]; exact hx
    · obtain ⟨g, sd, cc, e, r1, r2, r3, r4⟩ := S'
      exact ⟨g, sd, cc, by rw [List.getElem?_set_ne (Nat.ne_of_gt hp)]; exact e, r1, r2, r3, by simp; omega⟩
  · rintro env h' ⟨tk, o, rfl, A, hl, hnd, hall, le, S⟩
    refine hK _ _ ?_
    simp -implicitDefEqProofs only [k_asg, k_setE, k_asg2, k_par2, k_ret, k_expr, k_if, k_nx, k_bk, k_ct, k_var, k_lit, k_bin, k_then, k_bf, k_nil, k_cons, k_f1, k_new, k_al, k_tup, k_lst, k_call, k_and, k_or, k_not, k_ifx, k_tru, k_tcmp, k_tand, k_tor, k_tnot, k_chain, k_tchn, k_ttrue, k_fld, k_make, k_meth, k_bmX, k_sub, k_setF, k_lc, k_dc, k_for, k_ival, k_iitems, k_irng, k_turn, k_dturn, ok_ok, ok_opt, bl_bl, List.getElem?_cons_zero, List.getElem?_cons_succ, Option.join_some, List.set_cons_succ, List.set_cons_zero, own_int, own_str, b_add, b_sub, k_intI, c_eqI, c_neI, c_lt, c_ge, c_gt, List.length_cons, List.length_nil, List.cons_append, List.nil_append, Nat.zero_add, lim_ok, Nat.reduceAdd, Nat.reduceLeDiff, true_and, ne_eq, reduceCtorEq, not_false_eq_true, and_true, bk_str, List.cons.injEq, Val.int.injEq, wipeE, lock_none, unlock_none, if_T, if_F, Bool.false_eq_true, c_ltI, c_leI, k_sl, k_part, k_pnone, sl_str, tr_bl, tm_join, tm_append, tm_clearL, tm_clearD, tm_extend, tm_pop, tm_get, tm_split, tm_partition, Option.some.injEq, exists_eq_left', exists_eq_left, k_seq]
    rw [List.length_nil] at hl
    have hl : tk.length = m := by omega
    exact ⟨_, tk, rfl, A, hl, hnd, hall, le, by rw [← hl]; exact S⟩
/-! ### is_name -/
theorem isi_str {tt : Ty → Ty → Option Bool} {n : String} {b : Bool} {x : Str} {h : Heap} (e : tt (.b "str") (.b n) = some b) : isiV tt [.str x, .ty n] h = .ok (.bl b) h := by
  unfold isiV
  simp only [show tyOf (.str x) h = some (.b "str") from rfl, e]
theorem isi_int {tt : Ty → Ty → Option Bool} {n : String} {b : Bool} {i : Int} {h : Heap} (e : tt (.b "int") (.b n) = some b) : isiV tt [.int i, .ty n] h = .ok (.bl b) h := by
  unfold isiV
  simp only [show tyOf (.int i) h = some (.b "int") from rfl, e]
theorem len_strV {x : Str} {h : Heap} : lenV (.str x) h = .ok (.int x.length) h := congrArg (fun x => x) rfl
theorem blsV_map : ∀ bs : List Bool, blsV (bs.map Val.bl) = some bs
  | [] => rfl
  | b :: bs => by rw [List.map_cons, blsV, blsV_map bs]; rfl
theorem intsV_map : ∀ bs : List Int, intsV (bs.map Val.int) = some bs
  | [] => rfl
  | b :: bs => by rw [List.map_cons, intsV, intsV_map bs]; rfl
theorem all_lst {h : Heap} {a : Nat} {bs : List Bool} (e : rd h a = some (.lst (bs.map Val.bl))) : allV (.ref a) h = .ok (.bl (bs.all id)) h := by
  unfold allV listOf
  simp only [e, Option.bind_some, blsV_map]
theorem any_lst {h : Heap} {a : Nat} {bs : List Bool} (e : rd h a = some (.lst (bs.map Val.bl))) : anyV (.ref a) h = .ok (.bl (bs.any id)) h := by
  unfold anyV listOf
  simp only [e, Option.bind_some, blsV_map]
theorem sum_lst {h : Heap} {a : Nat} {bs : List Int} (e : rd h a = some (.lst (bs.map Val.int))) : sumV (.ref a) h = .ok (.int bs.sum) h := by
  unfold sumV listOf
  simp only [e, Option.bind_some, intsV_map]
def isNameS (tb : Tb) (cf : Cf) : Fs :=
  sSeq (sRet (eAnd (xBf (eCons (xVar 0) (eCons (xLit (.ty "str")) (aNil))) (isiV tb.tt)) (eAnd (eChain (cop .le) (cop .le) (xLit (.int 1)) (xBf (eCons (xVar 0) (aNil)) (MP.f1 lenV)) (xLit (.int 8))) (xBf (eCons (eLc (iVal (xVar 0)) (gNm 1) (tTrue) (xBin (cmpF tb cf .In) (xVar 1) (xLit (.str "abcdefghijklmnopqrstuvwxyz"))) [1]) (aNil)) (MP.f1 allV))))) (sNx)
theorem abc_mem (c : Nat) : decide (c ∈ (Str.ofString "abcdefghijklmnopqrstuvwxyz").cps.toList) = decide (Lw c) := by
  have e : (Str.ofString "abcdefghijklmnopqrstuvwxyz").cps.toList = (List.range 26).map (· + 97) := by decide +kernel
  rw [e, Bool.eq_iff_iff, decide_eq_true_eq, decide_eq_true_eq, List.mem_map]
  unfold Lw
  exact ⟨fun ⟨i, hi, e⟩ => by have := List.mem_range.mp hi; omega, fun ⟨a, b⟩ => ⟨c - 97, List.mem_range.mpr (by omega), by omega⟩⟩
def IsNameOk (c : Cl) : Prop := ∀ (h : Heap) (x : Str), x.length ≤ lim → Ok (c [.str x] h) fun v h' => v = .bl (decide (IsNm x)) ∧ Lx h h'
theorem isName_ok {tb : Tb} {cf : Cf} {h : Heap} {x : Str} (htt : tb.tt (.b "str") (.b "str") = some true) (hx : x.length ≤ lim) {nx bk ct : Env → Heap → Prop} :
    OkS (isNameS tb cf [some (.str x), none] h) nx (fun v h' => v = .bl (decide (IsNm x)) ∧ Lx h h') bk ct := by
  unfold isNameS
  simp -implicitDefEqProofs only [k_asg, k_setE, k_asg2, k_par2, k_ret, k_expr, k_if, k_nx, k_bk, k_ct, k_var, k_lit, k_bin, k_then, k_bf, k_nil, k_cons, k_f1, k_new, k_al, k_tup, k_lst, k_call, k_and, k_or, k_not, k_ifx, k_tru, k_tcmp, k_tand, k_tor, k_tnot, k_chain, k_tchn, k_ttrue, k_fld, k_make, k_meth, k_bmX, k_sub, k_setF, k_lc, k_dc, k_for, k_ival, k_iitems, k_irng, k_turn, k_dturn, ok_ok, ok_opt, bl_bl, List.getElem?_cons_zero, List.getElem?_cons_succ, Option.join_some, List.set_cons_succ, List.set_cons_zero, own_int, own_str, b_add, b_sub, k_intI, c_eqI, c_neI, c_lt, c_ge, c_gt, List.length_cons, List.length_nil, List.cons_append, List.nil_append, Nat.zero_add, lim_ok, Nat.reduceAdd, Nat.reduceLeDiff, true_and, ne_eq, reduceCtorEq, not_false_eq_true, and_true, bk_str, List.cons.injEq, Val.int.injEq, wipeE, lock_none, unlock_none, if_T, if_F, Bool.false_eq_true, c_ltI, c_leI, k_sl, k_part, k_pnone, sl_str, tr_bl, tm_join, tm_append, tm_clearL, tm_clearD, tm_extend, tm_pop, tm_get, tm_split, tm_partition, Option.some.injEq, exists_eq_left', exists_eq_left, k_seq, isi_str htt, len_strV, if_true]
  by_cases h1 : (1 : Int) ≤ x.length
  · rw [decide_eq_true h1, if_pos rfl]
    by_cases h2 : (x.length : Int) ≤ 8
    · rw [decide_eq_true h2, if_pos rfl]
      simp -implicitDefEqProofs only [k_asg, k_setE, k_asg2, k_par2, k_ret, k_expr, k_if, k_nx, k_bk, k_ct, k_var, k_lit, k_bin, k_then, k_bf, k_nil, k_cons, k_f1, k_new, k_al, k_tup, k_lst, k_call, k_and, k_or, k_not, k_ifx, k_tru, k_tcmp, k_tand, k_tor, k_tnot, k_chain, k_tchn, k_ttrue, k_fld, k_make, k_meth, k_bmX, k_sub, k_setF, k_lc, k_dc, k_for, k_ival, k_iitems, k_irng, k_turn, k_dturn, ok_ok, ok_opt, bl_bl, List.getElem?_cons_zero, List.getElem?_cons_succ, Option.join_some, List.set_cons_succ, List.set_cons_zero, own_int, own_str, b_add, b_sub, k_intI, c_eqI, c_neI, c_lt, c_ge, c_gt, List.length_cons, List.length_nil, List.cons_append, List.nil_append, Nat.zero_add, lim_ok, Nat.reduceAdd, Nat.reduceLeDiff, true_and, ne_eq, reduceCtorEq, not_false_eq_true, and_true, bk_str, List.cons.injEq, Val.int.injEq, wipeE, lock_none, unlock_none, if_T, if_F, Bool.false_eq_true, c_ltI, c_leI, k_sl, k_part, k_pnone, sl_str, tr_bl, tm_join, tm_append, tm_clearL, tm_clearD, tm_extend, tm_pop, tm_get, tm_split, tm_partition, Option.some.injEq, exists_eq_left', exists_eq_left, src_strV]
      refine ⟨?_, ?_⟩
      · rw [show (strV x).length = x.length by unfold strV; rw [List.length_map]; rfl]; exact hx
      refine (lc_fun (fun v => match v with | .str s => some (.bl (decide (Lw (s.cps.toList.headD 0)))) | _ => none) _ [] h ?_).imp ?_
      · intro v hv h2 l2
        unfold strV at hv
        obtain ⟨ch, hch, rfl⟩ := List.mem_map.mp hv
        have ec : cmpF tb cf .In (.str ⟨#[ch]⟩) (.str "abcdefghijklmnopqrstuvwxyz") h2 = .ok (.bl (decide (ch ∈ (Str.ofString "abcdefghijklmnopqrstuvwxyz").cps.toList))) h2 := rfl
        simp -implicitDefEqProofs only [k_asg, k_setE, k_asg2, k_par2, k_ret, k_expr, k_if, k_nx, k_bk, k_ct, k_var, k_lit, k_bin, k_then, k_bf, k_nil, k_cons, k_f1, k_new, k_al, k_tup, k_lst, k_call, k_and, k_or, k_not, k_ifx, k_tru, k_tcmp, k_tand, k_tor, k_tnot, k_chain, k_tchn, k_ttrue, k_fld, k_make, k_meth, k_bmX, k_sub, k_setF, k_lc, k_dc, k_for, k_ival, k_iitems, k_irng, k_turn, k_dturn, ok_ok, ok_opt, bl_bl, List.getElem?_cons_zero, List.getElem?_cons_succ, Option.join_some, List.set_cons_succ, List.set_cons_zero, own_int, own_str, b_add, b_sub, k_intI, c_eqI, c_neI, c_lt, c_ge, c_gt, List.length_cons, List.length_nil, List.cons_append, List.nil_append, Nat.zero_add, lim_ok, Nat.reduceAdd, Nat.reduceLeDiff, true_and, ne_eq, reduceCtorEq, not_false_eq_true, and_true, bk_str, List.cons.injEq, Val.int.injEq, wipeE, lock_none, unlock_none, if_T, if_F, Bool.false_eq_true, c_ltI, c_leI, k_sl, k_part, k_pnone, sl_str, tr_bl, tm_join, tm_append, tm_clearL, tm_clearD, tm_extend, tm_pop, tm_get, tm_split, tm_partition, Option.some.injEq, exists_eq_left', exists_eq_left, ec]
        rw [abc_mem]
        exact ⟨rfl, Fr.refl _ _⟩
      · rintro ys h3 ⟨l3, rfl⟩
        have e : (strV x).filterMap (fun v => match v with | .str s => some (Val.bl (decide (Lw (s.cps.toList.headD 0)))) | _ => none) = (x.cps.toList.map fun c => decide (Lw c)).map Val.bl := by
          unfold strV
          rw [List.filterMap_map, List.map_map]
          generalize x.cps.toList = l
          induction l with
          | nil => rfl
          | cons a l ih => rw [List.filterMap_cons, List.map_cons, ih]; rfl
        rw [List.nil_append, e, all_lst (rd_new rfl), ok_ok]
        refine ⟨?_, l3.trans (Fr.app _ _ _)⟩
        congr 1
        rw [List.all_map, Bool.eq_iff_iff, List.all_eq_true, decide_eq_true_eq]
        constructor
        · intro q
          exact ⟨by omega, by omega, fun c hc => by simpa using q c hc⟩
        · rintro ⟨_, _, q⟩ c hc
          simpa using q c hc
    · rw [decide_eq_false h2, if_neg Bool.false_ne_true]
      refine ⟨?_, Fr.refl _ _⟩
      rw [decide_eq_false]
      rintro ⟨_, q, _⟩
      omega
  · rw [decide_eq_false h1]
    simp -implicitDefEqProofs only [k_asg, k_setE, k_asg2, k_par2, k_ret, k_expr, k_if, k_nx, k_bk, k_ct, k_var, k_lit, k_bin, k_then, k_bf, k_nil, k_cons, k_f1, k_new, k_al, k_tup, k_lst, k_call, k_and, k_or, k_not, k_ifx, k_tru, k_tcmp, k_tand, k_tor, k_tnot, k_chain, k_tchn, k_ttrue, k_fld, k_make, k_meth, k_bmX, k_sub, k_setF, k_lc, k_dc, k_for, k_ival, k_iitems, k_irng, k_turn, k_dturn, ok_ok, ok_opt, bl_bl, List.getElem?_cons_zero, List.getElem?_cons_succ, Option.join_some, List.set_cons_succ, List.set_cons_zero, own_int, own_str, b_add, b_sub, k_intI, c_eqI, c_neI, c_lt, c_ge, c_gt, List.length_cons, List.length_nil, List.cons_append, List.nil_append, Nat.zero_add, lim_ok, Nat.reduceAdd, Nat.reduceLeDiff, true_and, ne_eq, reduceCtorEq, not_false_eq_true, and_true, bk_str, List.cons.injEq, Val.int.injEq, wipeE, lock_none, unlock_none, if_T, if_F, Bool.false_eq_true, c_ltI, c_leI, k_sl, k_part, k_pnone, sl_str, tr_bl, tm_join, tm_append, tm_clearL, tm_clearD, tm_extend, tm_pop, tm_get, tm_split, tm_partition, Option.some.injEq, exists_eq_left', exists_eq_left]
    refine ⟨?_, Fr.refl _ _⟩
    rw [decide_eq_false]
    rintro ⟨q, _⟩
    omega
end MP
end

section
/-! MP, part QO: tables. -/
set_option autoImplicit false
set_option linter.all false
set_option maxRecDepth 10000
namespace MP
open PySem L2
section
variable {env : Env} {h : Heap} {Q : Val → Heap → Prop} {nx : Env → Heap → Prop} {rt : Val → Heap → Prop} {bk ct : Env → Heap → Prop}
theorem k_par2C {f1 f2 : Fe} {i j : Nat} : OkS (sPar2 i j (eCons f1 (eCons f2 aNil)) env h) nx rt bk ct = Ok (f1 env h) fun v h1 => Ok (f2 env h1) fun w h2 => nx ((env.set i (some v)).set j (some w)) h2 := by
  rw [k_par2, k_cons]
  congr 1; funext v h1
  rw [k_cons]
  congr 1; funext w h2
  rw [k_nil]
  apply propext
  exact ⟨fun ⟨_, _, e, q⟩ => by cases e; exact q, fun q => ⟨v, w, rfl, q⟩⟩
theorem for_invK {f : Val → Env → Heap → SR} {bk' ct' : Env → Heap → Prop} (I : List Val → Env → Heap → Prop) (xs : List Val) (env : Env) (h : Heap) (start : I xs env h)
    (step : ∀ v r env h, I (v :: r) env h → ∀ K : Env → Heap → Prop, (∀ e h, I r e h → K e h) → OkS (f v env h) K rt (fun e h => nx e h) K) (fin : ∀ env h, I [] env h → nx env h) : OkS (forGo f xs env h) nx rt bk' ct' :=
  for_inv I xs env h start (fun v r env h i => step v r env h i _ fun e h q => q) fin
end
theorem g_tp2 {i j : Nat} {a b : Val} {env : Env} {h : Heap} : gTp 2 (gsCons (gNm i) (gsCons (gNm j) gsNil)) (.tup [a, b]) env h = .ok ((env.set i (some a)).set j (some b)) h := congrArg (fun x => x) rfl
theorem in_of {h : Heap} {a c : Nat} {fs : List (Str × Val)} {P : Nat → List (Str × Val) → Prop} (e : rd h a = some (.ins c fs)) : In (.ref a) h P = P c fs := by
  unfold In insOf
  simp only [e]
/-! ### without noughts -/
theorem sorted_dct {α : Type} {f : α → Val} {h : Heap} {a : Nat} {l : List (Str × α)} (e : rd h a = some (.dct (dS f l))) (hl : l.length < 64) : sortedV (.ref a) h = al h (.lst ((sortS (l.map (·.1))).map Val.str)) := by
  unfold sortedV
  simp only [e, keys_dS, List.length_map, hl, if_true]
theorem sortS_len (l : List Str) : (sortS l).length = l.length := (sortS_perm l).length_eq
theorem look_in {l : List (Str × Int)} {x : Str} (h : x ∈ l.map (·.1)) : l.lookup x = some (look0 l x) := by
  have := lookup_key.mpr h
  unfold look0
  cases e : l.lookup x with
  | none => rw [e] at this; cases this
  | some v => rfl
def lessF (l : List (Str × Int)) : Val → Option Val
  | .str x => if look0 l x ≠ 0 then some (.tup [.str x, .int (look0 l x)]) else none
  | _ => none
theorem lessF_map (l : List (Str × Int)) : ∀ ks : List Str, (ks.map Val.str).filterMap (lessF l) = ((ks.filter fun x => decide (look0 l x ≠ 0)).map fun x => (x, look0 l x)).map fun p => Val.tup [.str p.1, .int p.2]
  | [] => rfl
  | x :: ks => by
    rw [List.map_cons, List.filterMap_cons, lessF_map l ks, List.filter_cons]
    unfold lessF
    by_cases hx : look0 l x = 0 <;> simp [hx]
def lessG (l : List (Str × Int)) : Val → Option (Key × Val)
  | .str x => if look0 l x ≠ 0 then some (.inr x, .int (look0 l x)) else none
  | _ => none
theorem lessG_map (l : List (Str × Int)) : ∀ ks : List Str, (ks.map Val.str).filterMap (lessG l) = dI ((ks.filter fun x => decide (look0 l x ≠ 0)).map fun x => (x, look0 l x))
  | [] => rfl
  | x :: ks => by
    rw [List.map_cons, List.filterMap_cons, lessG_map l ks, List.filter_cons]
    unfold lessG
    by_cases hx : look0 l x = 0 <;> simp [hx, dS]
theorem dict_pairs {α : Type} {f : α → Val} {h : Heap} {a : Nat} {l : List (Str × α)} (e : rd h a = some (.lst (l.map fun p => Val.tup [.str p.1, f p.2]))) (hn : (l.map (·.1)).Nodup) : dictV (.ref a) h = al h (.dct (dS f l)) := by
  unfold dictV
  simp only [e, pairs_dS]
  rw [show merK [] (dS f l) = merK (dS f []) (dS f l) from rfl, merK_dS f l [] List.nodup_nil, mer0 l hn]
/-- a function that drops noughts -/
def LessOk (c : Cl) : Prop := ∀ (h : Heap) (a : Nat) (l : List (Str × Int)), 0 < h.length → At h a (.dct (dI l)) → (l.map (·.1)).Nodup → l.length < 64 → Ok (c [.ref a] h) fun v h' => ∃ b, v = .ref b ∧ h.length ≤ b ∧ Aw h' b (.dct (dI (lessL l))) ∧ Lx h h'
def lawLessS (tb : Tb) (cf : Cf) : Fs :=
  sSeq (sRet (xBf (eCons (eLc (iVal (xBf (eCons (xVar 0) (aNil)) (MP.f1 sortedV))) (gNm 1) (tCmp (cmpF tb cf .NotEq) (xBin ixV (xVar 0) (xVar 1)) (xLit (.int 0))) (eTup (eCons (xVar 1) (eCons (xBin ixV (xVar 0) (xVar 1)) (aNil)))) [1]) (aNil)) (MP.f1 dictV))) (sNx)
theorem lawLess_ok {tb : Tb} {cf : Cf} {h : Heap} {a : Nat} {l : List (Str × Int)} (hp : 0 < h.length) (A : At h a (.dct (dI l))) (hn : (l.map (·.1)).Nodup) (hl : l.length < 64) {nx bk ct : Env → Heap → Prop} :
    OkS (lawLessS tb cf [some (.ref a), none] h) nx (fun v h' => ∃ b, v = .ref b ∧ h.length ≤ b ∧ Aw h' b (.dct (dI (lessL l))) ∧ Lx h h') bk ct := by
  unfold lawLessS
  simp -implicitDefEqProofs only [k_asg, k_setE, k_asg2, k_ret, k_expr, k_if, k_nx, k_bk, k_ct, k_var, k_lit, k_bin, k_then, k_bf, k_nil, k_cons, k_f1, k_new, k_al, k_tup, k_lst, k_call, k_and, k_or, k_not, k_ifx, k_tru, k_tcmp, k_tand, k_tor, k_tnot, k_chain, k_tchn, k_ttrue, k_fld, k_make, k_meth, k_bmX, k_sub, k_setF, k_lc, k_dc, k_for, k_ival, k_iitems, k_irng, k_turn, k_dturn, ok_ok, ok_opt, bl_bl, List.getElem?_cons_zero, List.getElem?_cons_succ, Option.join_some, List.set_cons_succ, List.set_cons_zero, own_int, own_str, b_add, b_sub, k_intI, c_eqI, c_neI, c_lt, c_ge, c_gt, List.length_cons, List.length_nil, List.cons_append, List.nil_append, Nat.zero_add, lim_ok, Nat.reduceAdd, Nat.reduceLeDiff, true_and, ne_eq, reduceCtorEq, not_false_eq_true, and_true, bk_str, List.cons.injEq, Val.int.injEq, wipeE, lock_none, unlock_none, if_T, if_F, Bool.false_eq_true, c_ltI, c_leI, k_sl, k_part, k_pnone, sl_str, tr_bl, k_par2C, g_tp2, tm_join, tm_append, tm_clearL, tm_clearD, tm_extend, tm_pop, tm_get, tm_split, tm_partition, Option.some.injEq, exists_eq_left', exists_eq_left, k_seq, sorted_dct A.2 hl]
  simp -implicitDefEqProofs only [k_asg, k_setE, k_asg2, k_ret, k_expr, k_if, k_nx, k_bk, k_ct, k_var, k_lit, k_bin, k_then, k_bf, k_nil, k_cons, k_f1, k_new, k_al, k_tup, k_lst, k_call, k_and, k_or, k_not, k_ifx, k_tru, k_tcmp, k_tand, k_tor, k_tnot, k_chain, k_tchn, k_ttrue, k_fld, k_make, k_meth, k_bmX, k_sub, k_setF, k_lc, k_dc, k_for, k_ival, k_iitems, k_irng, k_turn, k_dturn, ok_ok, ok_opt, bl_bl, List.getElem?_cons_zero, List.getElem?_cons_succ, Option.join_some, List.set_cons_succ, List.set_cons_zero, own_int, own_str, b_add, b_sub, k_intI, c_eqI, c_neI, c_lt, c_ge, c_gt, List.length_cons, List.length_nil, List.cons_append, List.nil_append, Nat.zero_add, lim_ok, Nat.reduceAdd, Nat.reduceLeDiff, true_and, ne_eq, reduceCtorEq, not_false_eq_true, and_true, bk_str, List.cons.injEq, Val.int.injEq, wipeE, lock_none, unlock_none, if_T, if_F, Bool.false_eq_true, c_ltI, c_leI, k_sl, k_part, k_pnone, sl_str, tr_bl, k_par2C, g_tp2, tm_join, tm_append, tm_clearL, tm_clearD, tm_extend, tm_pop, tm_get, tm_split, tm_partition, Option.some.injEq, exists_eq_left', exists_eq_left, src_lst (rd_new (h := h) rfl)]
  refine ⟨?_, ?_⟩
  · rw [List.length_map, sortS_len, List.length_map]; exact le_lim (by omega)
  have l1 : Lx h (h ++ [(false, B.lst ((sortS (l.map (·.1))).map Val.str))]) := Fr.app _ _ _
  generalize h ++ [(false, B.lst ((sortS (l.map (·.1))).map Val.str))] = h1 at l1 ⊢
  have A1 := (A.lx l1).lock (some h.length)
  refine (lc_fun (lessF l) _ [] _ ?_).imp ?_
  · intro v hv h2 l2
    obtain ⟨x, hx, rfl⟩ := List.mem_map.mp hv
    have hx' := (sortS_perm _).mem_iff.mp hx
    have hlk : lookK (dI l) (.inr x) = some (.int (look0 l x)) := by rw [look_dS, look_in hx']; rfl
    simp -implicitDefEqProofs only [k_asg, k_setE, k_asg2, k_ret, k_expr, k_if, k_nx, k_bk, k_ct, k_var, k_lit, k_bin, k_then, k_bf, k_nil, k_cons, k_f1, k_new, k_al, k_tup, k_lst, k_call, k_and, k_or, k_not, k_ifx, k_tru, k_tcmp, k_tand, k_tor, k_tnot, k_chain, k_tchn, k_ttrue, k_fld, k_make, k_meth, k_bmX, k_sub, k_setF, k_lc, k_dc, k_for, k_ival, k_iitems, k_irng, k_turn, k_dturn, ok_ok, ok_opt, bl_bl, List.getElem?_cons_zero, List.getElem?_cons_succ, Option.join_some, List.set_cons_succ, List.set_cons_zero, own_int, own_str, b_add, b_sub, k_intI, c_eqI, c_neI, c_lt, c_ge, c_gt, List.length_cons, List.length_nil, List.cons_append, List.nil_append, Nat.zero_add, lim_ok, Nat.reduceAdd, Nat.reduceLeDiff, true_and, ne_eq, reduceCtorEq, not_false_eq_true, and_true, bk_str, List.cons.injEq, Val.int.injEq, wipeE, lock_none, unlock_none, if_T, if_F, Bool.false_eq_true, c_ltI, c_leI, k_sl, k_part, k_pnone, sl_str, tr_bl, k_par2C, g_tp2, tm_join, tm_append, tm_clearL, tm_clearD, tm_extend, tm_pop, tm_get, tm_split, tm_partition, Option.some.injEq, exists_eq_left', exists_eq_left, ix_dct (A1.lx l2).2, hlk]
    unfold lessF
    by_cases h0 : look0 l x = 0
    · simp [h0]; exact Fr.refl _ _
    · simp [h0]; exact Fr.refl _ _
  · rintro ys h2 ⟨l2, rfl⟩
    have l3 := l1.trans (Fr.unlock l2)
    generalize unlockH h1 h2 (some h.length) = h3 at l3 ⊢
    rw [List.nil_append, lessF_map, ← lessL]
    show Ok (dictV _ _) _
    rw [dict_pairs (l := lessL l) (f := Val.int) (rd_new rfl) (lessL_nodup l hn)]
    rw [k_al]
    have hp3 : 0 < h3.length := Nat.lt_of_lt_of_le hp l3.len
    exact ⟨_, rfl, by simp; have := l3.len; omega, Aw.new (by simp), (l3.trans (Fr.app _ _ _)).trans (Fr.app _ _ _)⟩
def wnS (tb : Tb) (cf : Cf) : Fs :=
  sSeq (sRet (eDc (iVal (xBf (eCons (xVar 0) (aNil)) (MP.f1 sortedV))) (gNm 1) (tCmp (cmpF tb cf .NotEq) (xBin ixV (xVar 0) (xVar 1)) (xLit (.int 0))) (xVar 1) (xBin ixV (xVar 0) (xVar 1)) [1])) (sNx)
theorem wn_ok {tb : Tb} {cf : Cf} {h : Heap} {a : Nat} {l : List (Str × Int)} (hp : 0 < h.length) (A : At h a (.dct (dI l))) (hn : (l.map (·.1)).Nodup) (hl : l.length < 64) {nx bk ct : Env → Heap → Prop} :
    OkS (wnS tb cf [some (.ref a), none] h) nx (fun v h' => ∃ b, v = .ref b ∧ h.length ≤ b ∧ Aw h' b (.dct (dI (lessL l))) ∧ Lx h h') bk ct := by
  unfold wnS
  simp -implicitDefEqProofs only [k_asg, k_setE, k_asg2, k_ret, k_expr, k_if, k_nx, k_bk, k_ct, k_var, k_lit, k_bin, k_then, k_bf, k_nil, k_cons, k_f1, k_new, k_al, k_tup, k_lst, k_call, k_and, k_or, k_not, k_ifx, k_tru, k_tcmp, k_tand, k_tor, k_tnot, k_chain, k_tchn, k_ttrue, k_fld, k_make, k_meth, k_bmX, k_sub, k_setF, k_lc, k_dc, k_for, k_ival, k_iitems, k_irng, k_turn, k_dturn, ok_ok, ok_opt, bl_bl, List.getElem?_cons_zero, List.getElem?_cons_succ, Option.join_some, List.set_cons_succ, List.set_cons_zero, own_int, own_str, b_add, b_sub, k_intI, c_eqI, c_neI, c_lt, c_ge, c_gt, List.length_cons, List.length_nil, List.cons_append, List.nil_append, Nat.zero_add, lim_ok, Nat.reduceAdd, Nat.reduceLeDiff, true_and, ne_eq, reduceCtorEq, not_false_eq_true, and_true, bk_str, List.cons.injEq, Val.int.injEq, wipeE, lock_none, unlock_none, if_T, if_F, Bool.false_eq_true, c_ltI, c_leI, k_sl, k_part, k_pnone, sl_str, tr_bl, k_par2C, g_tp2, tm_join, tm_append, tm_clearL, tm_clearD, tm_extend, tm_pop, tm_get, tm_split, tm_partition, Option.some.injEq, exists_eq_left', exists_eq_left, k_seq, sorted_dct A.2 hl]
  simp -implicitDefEqProofs only [k_asg, k_setE, k_asg2, k_ret, k_expr, k_if, k_nx, k_bk, k_ct, k_var, k_lit, k_bin, k_then, k_bf, k_nil, k_cons, k_f1, k_new, k_al, k_tup, k_lst, k_call, k_and, k_or, k_not, k_ifx, k_tru, k_tcmp, k_tand, k_tor, k_tnot, k_chain, k_tchn, k_ttrue, k_fld, k_make, k_meth, k_bmX, k_sub, k_setF, k_lc, k_dc, k_for, k_ival, k_iitems, k_irng, k_turn, k_dturn, ok_ok, ok_opt, bl_bl, List.getElem?_cons_zero, List.getElem?_cons_succ, Option.join_some, List.set_cons_succ, List.set_cons_zero, own_int, own_str, b_add, b_sub, k_intI, c_eqI, c_neI, c_lt, c_ge, c_gt, List.length_cons, List.length_nil, List.cons_append, List.nil_append, Nat.zero_add, lim_ok, Nat.reduceAdd, Nat.reduceLeDiff, true_and, ne_eq, reduceCtorEq, not_false_eq_true, and_true, bk_str, List.cons.injEq, Val.int.injEq, wipeE, lock_none, unlock_none, if_T, if_F, Bool.false_eq_true, c_ltI, c_leI, k_sl, k_part, k_pnone, sl_str, tr_bl, k_par2C, g_tp2, tm_join, tm_append, tm_clearL, tm_clearD, tm_extend, tm_pop, tm_get, tm_split, tm_partition, Option.some.injEq, exists_eq_left', exists_eq_left, src_lst (rd_new (h := h) rfl)]
  refine ⟨?_, ?_⟩
  · rw [List.length_map, sortS_len, List.length_map]; exact le_lim (by omega)
  have l1 : Lx h (h ++ [(false, B.lst ((sortS (l.map (·.1))).map Val.str))]) := Fr.app _ _ _
  generalize h ++ [(false, B.lst ((sortS (l.map (·.1))).map Val.str))] = h1 at l1 ⊢
  have A1 := (A.lx l1).lock (some h.length)
  refine (dc_fun (lessG l) _ [] _ ?_).imp ?_
  · intro v hv h2 l2
    obtain ⟨x, hx, rfl⟩ := List.mem_map.mp hv
    have hx' := (sortS_perm _).mem_iff.mp hx
    have hlk : lookK (dI l) (.inr x) = some (.int (look0 l x)) := by rw [look_dS, look_in hx']; rfl
    simp -implicitDefEqProofs only [k_asg, k_setE, k_asg2, k_ret, k_expr, k_if, k_nx, k_bk, k_ct, k_var, k_lit, k_bin, k_then, k_bf, k_nil, k_cons, k_f1, k_new, k_al, k_tup, k_lst, k_call, k_and, k_or, k_not, k_ifx, k_tru, k_tcmp, k_tand, k_tor, k_tnot, k_chain, k_tchn, k_ttrue, k_fld, k_make, k_meth, k_bmX, k_sub, k_setF, k_lc, k_dc, k_for, k_ival, k_iitems, k_irng, k_turn, k_dturn, ok_ok, ok_opt, bl_bl, List.getElem?_cons_zero, List.getElem?_cons_succ, Option.join_some, List.set_cons_succ, List.set_cons_zero, own_int, own_str, b_add, b_sub, k_intI, c_eqI, c_neI, c_lt, c_ge, c_gt, List.length_cons, List.length_nil, List.cons_append, List.nil_append, Nat.zero_add, lim_ok, Nat.reduceAdd, Nat.reduceLeDiff, true_and, ne_eq, reduceCtorEq, not_false_eq_true, and_true, bk_str, List.cons.injEq, Val.int.injEq, wipeE, lock_none, unlock_none, if_T, if_F, Bool.false_eq_true, c_ltI, c_leI, k_sl, k_part, k_pnone, sl_str, tr_bl, k_par2C, g_tp2, tm_join, tm_append, tm_clearL, tm_clearD, tm_extend, tm_pop, tm_get, tm_split, tm_partition, Option.some.injEq, exists_eq_left', exists_eq_left, ix_dct (A1.lx l2).2, hlk, show keyV (.str x) = some (.inr x) from rfl]
    unfold lessG
    by_cases h0 : look0 l x = 0
    · simp [h0]; exact Fr.refl _ _
    · simp [h0]; exact Fr.refl _ _
  · rintro ys h2 ⟨l2, rfl⟩
    have l3 := l1.trans (Fr.unlock l2)
    generalize unlockH h1 h2 (some h.length) = h3 at l3 ⊢
    rw [lessG_map, ← lessL, show merK [] (dI (lessL l)) = merK (dI []) (dI (lessL l)) from rfl, merK_dS, mer0 _ (lessL_nodup l hn)]
    · exact ⟨_, rfl, l3.len, Aw.new (Nat.lt_of_lt_of_le hp l3.len), l3.trans (Fr.app _ _ _)⟩
    · exact List.nodup_nil
/-! ### added -/
def addL (one other : List (Str × Int)) : List (Str × Int) := other.foldl (fun acc p => putS p.1 (look0 acc p.1 + p.2) acc) one
theorem addL_nodup : ∀ (other one : List (Str × Int)), (one.map (·.1)).Nodup → ((addL one other).map (·.1)).Nodup
  | [], _, h => h
  | p :: r, one, h => addL_nodup r _ (putS_nodup _ _ _ h)
theorem putS_look0 (x : Str) (a : Int) (y : Str) (l : List (Str × Int)) : look0 (putS x a l) y = if y = x then a else look0 l y := by
  unfold look0
  rw [putS_look]
  by_cases e : y = x <;> simp [e]
theorem addL_look (x : Str) : ∀ (other one : List (Str × Int)), (other.map (·.1)).Nodup → look0 (addL one other) x = look0 one x + look0 other x
  | [], one, _ => by show look0 one x = look0 one x + 0; omega
  | (y, b) :: r, one, h => by
    rw [List.map_cons, List.nodup_cons] at h
    show look0 (addL (putS y (look0 one y + b) one) r) x = _
    rw [addL_look x r _ h.2, putS_look0]
    unfold look0
    rw [List.lookup_cons]
    by_cases e : x = y
    · subst e
      have : r.lookup x = none := by
        have := mt lookup_key.mp h.1
        exact Option.not_isSome_iff_eq_none.mp this
      simp [this]
    · rw [show (x == y) = false by simpa using e, if_neg e]
theorem putS_len (x : Str) (a : Int) (l : List (Str × Int)) : (putS x a l).length ≤ l.length + 1 := by
  have := congrArg List.length (putS_keys x a l)
  rw [List.length_map] at this
  rw [this]
  split <;> simp
theorem addL_len : ∀ (other one : List (Str × Int)), (addL one other).length ≤ one.length + other.length
  | [], _ => Nat.le_refl _
  | p :: r, one => Nat.le_trans (addL_len r _) (by have := putS_len p.1 (look0 one p.1 + p.2) one; simp; omega)
theorem addL_keys (x : Str) : ∀ (other one : List (Str × Int)), x ∈ (addL one other).map (·.1) → x ∈ one.map (·.1) ∨ x ∈ other.map (·.1)
  | [], _, h => .inl h
  | p :: r, one, h => by
    rcases addL_keys x r _ h with h | h
    · rw [putS_keys] at h
      split at h
      · exact .inl h
      · rcases List.mem_append.mp h with h | h
        · exact .inl h
        · rw [List.mem_singleton.mp h]; exact .inr List.mem_cons_self
    · exact .inr (List.mem_cons_of_mem _ h)
theorem addL_pos : ∀ (other one : List (Str × Int)), (∀ p ∈ one, 0 ≤ p.2) → (∀ p ∈ other, 0 ≤ p.2) → ∀ p ∈ addL one other, 0 ≤ p.2
  | [], _, h, _ => h
  | q :: r, one, h1, h2 => by
    refine addL_pos r _ (fun p hp => ?_) fun p hp => h2 p (List.mem_cons_of_mem _ hp)
    have hq := h2 q List.mem_cons_self
    have h0 : 0 ≤ look0 one q.1 := by
      unfold look0
      cases e : one.lookup q.1 with
      | none => exact Int.le_refl _
      | some v => exact h1 _ (lookup_mem e)
    have key : ∀ l : List (Str × Int), (∀ p ∈ l, 0 ≤ p.2) → ∀ p ∈ putS q.1 (look0 one q.1 + q.2) l, 0 ≤ p.2 := fun l => by
      induction l with
      | nil => intro _ p hp; rw [List.mem_singleton.mp hp]; show 0 ≤ look0 one q.1 + q.2; omega
      | cons a l ih =>
        obtain ⟨y, b⟩ := a
        intro hl p hp
        unfold putS at hp
        split at hp
        · rcases List.mem_cons.mp hp with rfl | hp
          · show 0 ≤ look0 one q.1 + q.2; omega
          · exact hl p (List.mem_cons_of_mem _ hp)
        · rcases List.mem_cons.mp hp with rfl | hp
          · exact hl _ List.mem_cons_self
          · exact ih (fun p hp => hl p (List.mem_cons_of_mem _ hp)) p hp
    exact key one h1 p hp
theorem m_get {h : Heap} {a : Nat} {b : Bool} {kvs : List (Key × Val)} {x : Str} {d : Val} (e : h[a]? = some (b, .dct kvs)) : mGet (.ref a) [.str x, d] h = .ok ((lookK kvs (.inr x)).getD d) h := by
  unfold mGet
  simp only [e]
  rfl
theorem put_dct {h : Heap} {a : Nat} {kvs : List (Key × Val)} {x : Str} {v : Val} (e : h[a]? = some (false, .dct kvs)) (hl : kvs.length < lim) : putAt (.ref a) (.str x) v h = some (h.set a (false, .dct (setK kvs (.inr x) v))) := by
  unfold putAt
  simp only [e, show keyV (.str x) = some (.inr x) from rfl, hl, if_true]
def addedS (tb : Tb) (cf : Cf) : Fs :=
  sSeq (sAsg (xBf (eCons (xVar 0) (aNil)) (MP.f1 dictV)) (gNm 2)) (sSeq (sFor (iItems (xVar 1)) (gTp 2 (gsCons (gNm 3) (gsCons (gNm 4) (gsNil)))) (sSeq (sSubF (xVar 2) (xVar 3) (xBin (ownBin (obF tb cf .Add) (bop .add)) (eBm (bmT "get") (xVar 2) (eCons (xVar 3) (eCons (xLit (.int 0)) (aNil)))) (xVar 4))) (sNx))) (sSeq (sRet (xVar 2)) (sNx)))
theorem dict_dct {h : Heap} {a : Nat} {kvs : List (Key × Val)} (e : rd h a = some (.dct kvs)) : dictV (.ref a) h = al h (.dct kvs) := by
  unfold dictV
  simp only [e]
def AddedOk (c : Cl) : Prop := ∀ (h : Heap) (a b : Nat) (l m : List (Str × Int)), 0 < h.length → At h a (.dct (dI l)) → At h b (.dct (dI m)) → (l.map (·.1)).Nodup → l.length + m.length < 64 → Ok (c [.ref a, .ref b] h) fun v h' => ∃ r, v = .ref r ∧ Aw h' r (.dct (dI (addL l m))) ∧ Lx h h'
theorem added_ok {tb : Tb} {cf : Cf} {h : Heap} {a b : Nat} {l m : List (Str × Int)} (hp : 0 < h.length) (A : At h a (.dct (dI l))) (A' : At h b (.dct (dI m))) (hn : (l.map (·.1)).Nodup) (hl : l.length + m.length < 64) {nx bk ct : Env → Heap → Prop} :
    OkS (addedS tb cf [some (.ref a), some (.ref b), none, none, none] h) nx (fun v h' => ∃ r, v = .ref r ∧ Aw h' r (.dct (dI (addL l m))) ∧ Lx h h') bk ct := by
  unfold addedS
  with_reducible refine k_seqK fun K hK => ?_
  simp -implicitDefEqProofs only [k_asg, k_setE, k_asg2, k_ret, k_expr, k_if, k_nx, k_bk, k_ct, k_var, k_lit, k_bin, k_then, k_bf, k_nil, k_cons, k_f1, k_new, k_al, k_tup, k_lst, k_call, k_and, k_or, k_not, k_ifx, k_tru, k_tcmp, k_tand, k_tor, k_tnot, k_chain, k_tchn, k_ttrue, k_fld, k_make, k_meth, k_bmX, k_sub, k_setF, k_lc, k_dc, k_for, k_ival, k_iitems, k_irng, k_turn, k_dturn, ok_ok, ok_opt, bl_bl, List.getElem?_cons_zero, List.getElem?_cons_succ, Option.join_some, List.set_cons_succ, List.set_cons_zero, own_int, own_str, b_add, b_sub, k_intI, c_eqI, c_neI, c_lt, c_ge, c_gt, List.length_cons, List.length_nil, List.cons_append, List.nil_append, Nat.zero_add, lim_ok, Nat.reduceAdd, Nat.reduceLeDiff, true_and, ne_eq, reduceCtorEq, not_false_eq_true, and_true, bk_str, List.cons.injEq, Val.int.injEq, wipeE, lock_none, unlock_none, if_T, if_F, Bool.false_eq_true, c_ltI, c_leI, k_sl, k_part, k_pnone, sl_str, tr_bl, k_par2C, g_tp2, tm_join, tm_append, tm_clearL, tm_clearD, tm_extend, tm_pop, tm_get, tm_split, tm_partition, Option.some.injEq, exists_eq_left', exists_eq_left, dict_dct A.2]
  refine hK _ _ ?_
  clear hK K
  have l1 : Lx h (h ++ [(false, B.dct (dI l))]) := Fr.app _ _ _
  have N1 : Aw (h ++ [(false, B.dct (dI l))]) h.length (.dct (dI l)) := Aw.new hp
  generalize h ++ [(false, B.dct (dI l))] = h1 at l1 N1 ⊢
  have B1 := A'.lx l1
  with_reducible refine k_seqK fun K hK => ?_
  simp -implicitDefEqProofs only [k_asg, k_setE, k_asg2, k_ret, k_expr, k_if, k_nx, k_bk, k_ct, k_var, k_lit, k_bin, k_then, k_bf, k_nil, k_cons, k_f1, k_new, k_al, k_tup, k_lst, k_call, k_and, k_or, k_not, k_ifx, k_tru, k_tcmp, k_tand, k_tor, k_tnot, k_chain, k_tchn, k_ttrue, k_fld, k_make, k_meth, k_bmX, k_sub, k_setF, k_lc, k_dc, k_for, k_ival, k_iitems, k_irng, k_turn, k_dturn, ok_ok, ok_opt, bl_bl, List.getElem?_cons_zero, List.getElem?_cons_succ, Option.join_some, List.set_cons_succ, List.set_cons_zero, own_int, own_str, b_add, b_sub, k_intI, c_eqI, c_neI, c_lt, c_ge, c_gt, List.length_cons, List.length_nil, List.cons_append, List.nil_append, Nat.zero_add, lim_ok, Nat.reduceAdd, Nat.reduceLeDiff, true_and, ne_eq, reduceCtorEq, not_false_eq_true, and_true, bk_str, List.cons.injEq, Val.int.injEq, wipeE, lock_none, unlock_none, if_T, if_F, Bool.false_eq_true, c_ltI, c_leI, k_sl, k_part, k_pnone, sl_str, tr_bl, k_par2C, g_tp2, tm_join, tm_append, tm_clearL, tm_clearD, tm_extend, tm_pop, tm_get, tm_split, tm_partition, Option.some.injEq, exists_eq_left', exists_eq_left, src_itm B1.2, itms_dS]
  have hne : b ≠ h.length := Nat.ne_of_lt A'.lt
  refine for_invK (fun xs env h' => ∃ pre r : List (Str × Int), ∃ o1 o2, m = pre ++ r ∧ xs = r.map (fun p => Val.tup [.str p.1, .int p.2]) ∧ env = [some (.ref a), some (.ref b), some (.ref h.length), o1, o2] ∧ Aw h' h.length (.dct (dI (addL l pre))) ∧ Fr (fun x => x = h.length) (lockH h1 (some b)) h') _ _ _ ?_ ?_ ?_
  · exact ⟨[], m, none, none, rfl, rfl, rfl, N1.lock hne, Fr.refl _ _⟩
  · rintro v r env h' ⟨pre, r', o1, o2, e1, e2, rfl, W, fr⟩ K1 hK1
    cases r' with
    | nil => cases e2
    | cons p r' =>
      obtain ⟨x, i⟩ := p
      rw [List.map_cons] at e2
      injection e2 with e2 e3
      subst e2 e3
      simp -implicitDefEqProofs only [okS_lift, g_tp2, ok_ok]
      show OkS _ _ _ _ _
      have hlen : (dI (addL l pre)).length < lim := by
        rw [len_dS]
        have := addL_len pre l
        have hm := congrArg List.length e1
        rw [List.length_append] at hm
        exact Nat.lt_of_le_of_lt this (Nat.lt_of_lt_of_le (show l.length + pre.length < 100 by omega) (le_lim (by decide)))
      have hg : ((lookK (dI (addL l pre)) (.inr x)).getD (.int 0)) = .int (look0 (addL l pre) x) := by
        rw [look_dS]; unfold look0; cases (addL l pre).lookup x <;> rfl
      simp -implicitDefEqProofs only [k_asg, k_setE, k_asg2, k_ret, k_expr, k_if, k_nx, k_bk, k_ct, k_var, k_lit, k_bin, k_then, k_bf, k_nil, k_cons, k_f1, k_new, k_al, k_tup, k_lst, k_call, k_and, k_or, k_not, k_ifx, k_tru, k_tcmp, k_tand, k_tor, k_tnot, k_chain, k_tchn, k_ttrue, k_fld, k_make, k_meth, k_bmX, k_sub, k_setF, k_lc, k_dc, k_for, k_ival, k_iitems, k_irng, k_turn, k_dturn, ok_ok, ok_opt, bl_bl, List.getElem?_cons_zero, List.getElem?_cons_succ, Option.join_some, List.set_cons_succ, List.set_cons_zero, own_int, own_str, b_add, b_sub, k_intI, c_eqI, c_neI, c_lt, c_ge, c_gt, List.length_cons, List.length_nil, List.cons_append, List.nil_append, Nat.zero_add, lim_ok, Nat.reduceAdd, Nat.reduceLeDiff, true_and, ne_eq, reduceCtorEq, not_false_eq_true, and_true, bk_str, List.cons.injEq, Val.int.injEq, wipeE, lock_none, unlock_none, if_T, if_F, Bool.false_eq_true, c_ltI, c_leI, k_sl, k_part, k_pnone, sl_str, tr_bl, k_par2C, g_tp2, tm_join, tm_append, tm_clearL, tm_clearD, tm_extend, tm_pop, tm_get, tm_split, tm_partition, Option.some.injEq, exists_eq_left', exists_eq_left, k_seq, bk_d W.2, m_get W.2, hg, put_dct W.2 hlen]
      refine hK1 _ _ ⟨pre ++ [(x, i)], r', _, _, by rw [e1]; simp, rfl, rfl, ⟨hp, ?_⟩, ?_⟩
      · rw [setK_dS _ _ _ _ (addL_nodup pre l hn)]
        rw [show addL l (pre ++ [(x, i)]) = putS x (look0 (addL l pre) x + i) (addL l pre) by unfold addL; rw [List.foldl_append]; rfl]
        exact set_at W.2
      · exact fr.trans (Fr.set rfl)
  · rintro env h' ⟨pre, r', o1, o2, e1, e2, rfl, W, fr⟩
    cases r' with
    | cons p r' => cases e2
    | nil =>
      rw [List.append_nil] at e1
      subst e1
      refine hK _ _ ?_
      have f2 := Fr.unlock fr
      have W2 : Aw (unlockH h1 h' (some b)) h.length (.dct (dI (addL l m))) := by
        refine ⟨hp, ?_⟩
        unfold unlockH
        dsimp only
        split
        · rw [List.getElem?_set_ne hne]; exact W.2
        · exact W.2
      generalize unlockH h1 h' (some b) = h2 at f2 W2 ⊢
      simp -implicitDefEqProofs only [k_asg, k_setE, k_asg2, k_ret, k_expr, k_if, k_nx, k_bk, k_ct, k_var, k_lit, k_bin, k_then, k_bf, k_nil, k_cons, k_f1, k_new, k_al, k_tup, k_lst, k_call, k_and, k_or, k_not, k_ifx, k_tru, k_tcmp, k_tand, k_tor, k_tnot, k_chain, k_tchn, k_ttrue, k_fld, k_make, k_meth, k_bmX, k_sub, k_setF, k_lc, k_dc, k_for, k_ival, k_iitems, k_irng, k_turn, k_dturn, ok_ok, ok_opt, bl_bl, List.getElem?_cons_zero, List.getElem?_cons_succ, Option.join_some, List.set_cons_succ, List.set_cons_zero, own_int, own_str, b_add, b_sub, k_intI, c_eqI, c_neI, c_lt, c_ge, c_gt, List.length_cons, List.length_nil, List.cons_append, List.nil_append, Nat.zero_add, lim_ok, Nat.reduceAdd, Nat.reduceLeDiff, true_and, ne_eq, reduceCtorEq, not_false_eq_true, and_true, bk_str, List.cons.injEq, Val.int.injEq, wipeE, lock_none, unlock_none, if_T, if_F, Bool.false_eq_true, c_ltI, c_leI, k_sl, k_part, k_pnone, sl_str, tr_bl, k_par2C, g_tp2, tm_join, tm_append, tm_clearL, tm_clearD, tm_extend, tm_pop, tm_get, tm_split, tm_partition, Option.some.injEq, exists_eq_left', exists_eq_left, k_seq]
      refine ⟨_, rfl, W2, Nat.le_trans l1.len f2.len, fun x c _ ex => ?_⟩
      exact f2.keep x c (fun e => by subst e; exact absurd (lt_of_get ex) (Nat.lt_irrefl _)) (l1.keep x c id ex)
end MP
end

section
/-! MP, part QP: the class of tables. -/
set_option autoImplicit false
set_option linter.all false
set_option maxRecDepth 10000
namespace MP
open PySem L2
/-- what dict(..) takes -/
inductive DL (h : Heap) : Val → List (Str × Int) → Prop
  | non : DL h (.tup []) []
  | dct {a : Nat} {l : List (Str × Int)} : At h a (.dct (dI l)) → DL h (.ref a) l
  | lst {a : Nat} : At h a (.lst []) → DL h (.ref a) []
theorem DL.dict {h : Heap} {v : Val} {l : List (Str × Int)} (d : DL h v l) : dictV v h = al h (.dct (dI l)) := by
  cases d with
  | non => rfl
  | dct A => exact dict_dct A.2
  | lst A => unfold dictV; simp only [A.2]; rfl
theorem DL.le {h h' : Heap} {v : Val} {l : List (Str × Int)} (d : DL h v l) (le : Le h h') : DL h' v l := by
  cases d with
  | non => exact .non
  | dct A => exact .dct (A.le le)
  | lst A => exact .lst (A.le le)
/-- what is asked of the tables of a text -/
structure TT (tb : Tb) (k : Nat) : Prop where
  n1 : tb.na k "own_rows" = true
  n2 : tb.na k "own_counters" = true
  ss : tb.tt (.b "str") (.b "str") = some true
  ii : tb.tt (.b "int") (.b "int") = some true
  ib : tb.tt (.b "int") (.b "bool") = some false
  cc : tb.tt (.c k) (.c k) = some true
def isIntS (tb : Tb) : Fs :=
  sSeq (sRet (eAnd (xBf (eCons (xVar 0) (eCons (xLit (.ty "int")) (aNil))) (isiV tb.tt)) (eNot (xBf (eCons (xVar 0) (eCons (xLit (.ty "bool")) (aNil))) (isiV tb.tt))))) (sNx)
def IsIntOk (c : Cl) : Prop := ∀ (h : Heap) (i : Int), Ok (c [.int i] h) fun v h' => v = .bl true ∧ Lx h h'
theorem isInt_ok {tb : Tb} {k : Nat} (T : TT tb k) {h : Heap} {i : Int} {nx bk ct : Env → Heap → Prop} : OkS (isIntS tb [some (.int i)] h) nx (fun v h' => v = .bl true ∧ Lx h h') bk ct := by
  unfold isIntS
  simp -implicitDefEqProofs only [k_asg, k_setE, k_asg2, k_ret, k_expr, k_if, k_nx, k_bk, k_ct, k_var, k_lit, k_bin, k_then, k_bf, k_nil, k_cons, k_f1, k_new, k_al, k_tup, k_lst, k_call, k_and, k_or, k_not, k_ifx, k_tru, k_tcmp, k_tand, k_tor, k_tnot, k_chain, k_tchn, k_ttrue, k_fld, k_make, k_meth, k_bmX, k_sub, k_setF, k_lc, k_dc, k_for, k_ival, k_iitems, k_irng, k_turn, k_dturn, ok_ok, ok_opt, bl_bl, List.getElem?_cons_zero, List.getElem?_cons_succ, Option.join_some, List.set_cons_succ, List.set_cons_zero, own_int, own_str, b_add, b_sub, k_intI, c_eqI, c_neI, c_lt, c_ge, c_gt, List.length_cons, List.length_nil, List.cons_append, List.nil_append, Nat.zero_add, lim_ok, Nat.reduceAdd, Nat.reduceLeDiff, true_and, ne_eq, reduceCtorEq, not_false_eq_true, and_true, bk_str, List.cons.injEq, Val.int.injEq, wipeE, lock_none, unlock_none, if_T, if_F, Bool.false_eq_true, c_ltI, c_leI, k_sl, k_part, k_pnone, MP.sl_str, tr_bl, k_par2C, g_tp2, tm_join, tm_append, tm_clearL, tm_clearD, tm_extend, tm_pop, tm_get, tm_split, tm_partition, Option.some.injEq, exists_eq_left', exists_eq_left, k_seq, isi_int T.ii, isi_int T.ib, if_true]
  exact Fr.refl _ _
def tabInitS (tb : Tb) (cf : Cf) (c0 c1 c2 : Cl) (r1 r2 : Fs) : Fs :=
  sSeq (sPar2 3 4 (eCons (xBf (eCons (xVar 1) (aNil)) (MP.f1 dictV)) (eCons (xBf (eCons (xVar 2) (aNil)) (MP.f1 dictV)) (aNil)))) (sSeq (sFor (iItems (xVar 3)) (gTp 2 (gsCons (gNm 5) (gsCons (gNm 6) (gsNil)))) (sSeq (sIf (tOrF (tNotF (eTru (eCall 1 c0 [] (eCons (xVar 5) (aNil))))) (tOrF (tNotF (eTru (eCall 1 c1 [] (eCons (xVar 6) (aNil))))) (tCmp (cmpF tb cf .Lt) (xVar 6) (xLit (.int 0))))) r1 (sNx)) (sNx))) (sSeq (sFor (iItems (xVar 4)) (gTp 2 (gsCons (gNm 5) (gsCons (gNm 6) (gsNil)))) (sSeq (sIf (tOrF (tNotF (eTru (eCall 1 c0 [] (eCons (xVar 5) (aNil))))) (tNotF (eTru (eCall 1 c1 [] (eCons (xVar 6) (aNil)))))) r2 (sNx)) (sNx))) (sSeq (sFldF (fun c => tb.na c "own_rows") "own_rows" (xVar 0) (eCall 1 c2 [] (eCons (xVar 3) (aNil)))) (sSeq (sFldF (fun c => tb.na c "own_counters") "own_counters" (xVar 0) (eCall 1 c2 [] (eCons (xVar 4) (aNil)))) (sNx)))))
/-- names and numbers that may stand in a table -/
structure Good1 (l : List (Str × Int)) : Prop where
  nd : (l.map (·.1)).Nodup
  nm : ∀ p ∈ l, IsNm p.1
  few : l.length < 32
def tabF (ra ca : Nat) : List (Str × Val) := [("own_rows", .ref ra), ("own_counters", .ref ca)]
theorem tabF1 (ra ca : Nat) : (tabF ra ca).lookup ("own_rows" : Str) = some (.ref ra) := rfl
theorem tabF2 (ra ca : Nat) : (tabF ra ca).lookup ("own_counters" : Str) = some (.ref ca) := rfl
theorem setF1 (v : Val) : setF ("own_rows" : Str) v [] = [(("own_rows" : Str), v)] := rfl
theorem setF2 (ra ca : Nat) : setF "own_counters" (.ref ca) [("own_rows", .ref ra)] = tabF ra ca := by unfold setF; rw [if_neg (by decide)]; rfl
theorem nm_len {x : Str} (h : IsNm x) : x.length ≤ lim := Nat.le_trans h.2.1 (le_lim (by decide))
theorem ok_tnotb {b : Bool} {h : Heap} {Q : Bool → Heap → Prop} : (Q (!b) h) = Q (!b) h := rfl
theorem tabInit_ok {tb : Tb} {cf : Cf} {c0 c1 c2 : Cl} {r1 r2 : Fs} {k : Nat} (T : TT tb k) (h0 : IsNameOk c0) (h1 : IsIntOk c1) (h2 : LessOk c2) {h : Heap} {s : Nat} {rv cv : Val} {R C : List (Str × Int)}
    (hs : Aw h s (.ins k [])) (dr : DL h rv R) (dc : DL h cv C) (gR : Good1 R) (gC : Good1 C) (pR : ∀ p ∈ R, 0 ≤ p.2) {rt : Val → Heap → Prop} {bk ct : Env → Heap → Prop} :
    OkS (tabInitS tb cf c0 c1 c2 r1 r2 [some (.ref s), some rv, some cv, none, none, none, none] h) (fun _ h' => ∃ ra ca, Aw h' s (.ins k (tabF ra ca)) ∧ Aw h' ra (.dct (dI (lessL R))) ∧ Aw h' ca (.dct (dI (lessL C))) ∧ Fr (fun x => x = s) h h' ∧ h.length ≤ ra ∧ h.length ≤ ca) rt bk ct := by
  have hp : 0 < h.length := Nat.lt_of_le_of_lt (Nat.zero_le _) hs.lt
  unfold tabInitS
  with_reducible refine k_seqK fun K hK => ?_
  have l1 : Lx h (h ++ [(false, B.dct (dI R))]) := Fr.app _ _ _
  simp -implicitDefEqProofs only [k_asg, k_setE, k_asg2, k_ret, k_expr, k_if, k_nx, k_bk, k_ct, k_var, k_lit, k_bin, k_then, k_bf, k_nil, k_cons, k_f1, k_new, k_al, k_tup, k_lst, k_call, k_and, k_or, k_not, k_ifx, k_tru, k_tcmp, k_tand, k_tor, k_tnot, k_chain, k_tchn, k_ttrue, k_fld, k_make, k_meth, k_bmX, k_sub, k_setF, k_lc, k_dc, k_for, k_ival, k_iitems, k_irng, k_turn, k_dturn, ok_ok, ok_opt, bl_bl, List.getElem?_cons_zero, List.getElem?_cons_succ, Option.join_some, List.set_cons_succ, List.set_cons_zero, own_int, own_str, b_add, b_sub, k_intI, c_eqI, c_neI, c_lt, c_ge, c_gt, List.length_cons, List.length_nil, List.cons_append, List.nil_append, Nat.zero_add, lim_ok, Nat.reduceAdd, Nat.reduceLeDiff, true_and, ne_eq, reduceCtorEq, not_false_eq_true, and_true, bk_str, List.cons.injEq, Val.int.injEq, wipeE, lock_none, unlock_none, if_T, if_F, Bool.false_eq_true, c_ltI, c_leI, k_sl, k_part, k_pnone, MP.sl_str, tr_bl, k_par2C, g_tp2, tm_join, tm_append, tm_clearL, tm_clearD, tm_extend, tm_pop, tm_get, tm_split, tm_partition, Option.some.injEq, exists_eq_left', exists_eq_left, dr.dict, (dc.le l1.le).dict]
  refine hK _ _ ?_
  clear hK K
  have l2 : Lx (h ++ [(false, B.dct (dI R))]) (h ++ [(false, B.dct (dI R))] ++ [(false, B.dct (dI C))]) := Fr.app _ _ _
  have A : Aw (h ++ [(false, B.dct (dI R))] ++ [(false, B.dct (dI C))]) h.length (.dct (dI R)) := (Aw.new hp).lx l2
  have A' : Aw (h ++ [(false, B.dct (dI R))] ++ [(false, B.dct (dI C))]) (h ++ [(false, B.dct (dI R))]).length (.dct (dI C)) := Aw.new (by simp)
  have l3 := l1.trans l2
  have ha : h.length ≤ (h ++ [(false, B.dct (dI R))]).length := by simp
  generalize (h ++ [(false, B.dct (dI R))]).length = b at *
  generalize h ++ [(false, B.dct (dI R))] ++ [(false, B.dct (dI C))] = g at *
  clear l1 l2
  have body : ∀ (h' : Heap) (x : Str) (i : Int), IsNm x → Ok (c0 [.str x] h') (fun v h' => v = .bl true ∧ Lx h h' → True) := fun h' x i hx => (h0 h' x (nm_len hx)).imp fun _ _ _ _ => trivial
  clear body
  have loop : ∀ (g0 : Heap) (l : List (Str × Int)) (test : Ft) (r : Fs) (env0 : Env) (K bk ct : Env → Heap → Prop) (rt : Val → Heap → Prop), env0.length = 7 → (∀ p ∈ l, IsNm p.1) →
      (∀ (env : Env) (h' : Heap) (x : Str) (i : Int) (Q : Bool → Heap → Prop), (x, i) ∈ l → env[5]? = some (some (.str x)) → env[6]? = some (some (.int i)) → (∀ h'', Lx h' h'' → Q false h'') → Ok (test env h') Q) →
      (∀ env h', Lx g0 h' → (∀ j, j < 5 → env[j]? = env0[j]?) → env.length = 7 → K env h') →
      OkS (forGo (fun v env h => liftS (gTp 2 (gsCons (gNm 5) (gsCons (gNm 6) gsNil)) v env h) env (sSeq (sIf test r sNx) sNx)) (l.map fun p => Val.tup [.str p.1, .int p.2]) env0 g0) K rt bk ct := by
    intro g0 l test r env0 K bk ct rt hl hnm ht hK
    refine for_invK (fun xs env h' => ∃ q : List (Str × Int), xs = q.map (fun p => Val.tup [.str p.1, .int p.2]) ∧ (∀ p ∈ q, p ∈ l) ∧ Lx g0 h' ∧ (∀ j, j < 5 → env[j]? = env0[j]?) ∧ env.length = 7) _ _ _ ?_ ?_ ?_
    · exact ⟨l, rfl, fun _ h => h, Fr.refl _ _, fun _ _ => rfl, hl⟩
    · rintro v r' env h' ⟨q, e, hq, l', he, hlen⟩ K1 hK1
      cases q with
      | nil => cases e
      | cons p q =>
        obtain ⟨x, i⟩ := p
        rw [List.map_cons] at e
        injection e with e e'
        subst e e'
        simp -implicitDefEqProofs only [okS_lift, g_tp2, ok_ok]
        show OkS _ _ _ _ _
        rw [k_seq, k_if]
        refine ht _ _ x i _ (hq _ List.mem_cons_self) (by simp [hlen]) (by simp [hlen]) fun h'' l'' => ?_
        rw [if_neg Bool.false_ne_true, k_nx, k_nx]
        refine hK1 _ _ ⟨q, rfl, fun p hp => hq p (List.mem_cons_of_mem _ hp), l'.trans l'', fun j hj => ?_, by simp [hlen]⟩
        rw [List.getElem?_set_ne (by omega), List.getElem?_set_ne (by omega)]
        exact he j hj
    · rintro env h' ⟨q, e, hq, l', he, hlen⟩
      exact hK env h' l' he hlen
  with_reducible refine k_seqK fun K hK => ?_
  simp -implicitDefEqProofs only [k_asg, k_setE, k_asg2, k_ret, k_expr, k_if, k_nx, k_bk, k_ct, k_var, k_lit, k_bin, k_then, k_bf, k_nil, k_cons, k_f1, k_new, k_al, k_tup, k_lst, k_call, k_and, k_or, k_not, k_ifx, k_tru, k_tcmp, k_tand, k_tor, k_tnot, k_chain, k_tchn, k_ttrue, k_fld, k_make, k_meth, k_bmX, k_sub, k_setF, k_lc, k_dc, k_for, k_ival, k_iitems, k_irng, k_turn, k_dturn, ok_ok, ok_opt, bl_bl, List.getElem?_cons_zero, List.getElem?_cons_succ, Option.join_some, List.set_cons_succ, List.set_cons_zero, own_int, own_str, b_add, b_sub, k_intI, c_eqI, c_neI, c_lt, c_ge, c_gt, List.length_cons, List.length_nil, List.cons_append, List.nil_append, Nat.zero_add, lim_ok, Nat.reduceAdd, Nat.reduceLeDiff, true_and, ne_eq, reduceCtorEq, not_false_eq_true, and_true, bk_str, List.cons.injEq, Val.int.injEq, wipeE, lock_none, unlock_none, if_T, if_F, Bool.false_eq_true, c_ltI, c_leI, k_sl, k_part, k_pnone, MP.sl_str, tr_bl, k_par2C, g_tp2, tm_join, tm_append, tm_clearL, tm_clearD, tm_extend, tm_pop, tm_get, tm_split, tm_partition, Option.some.injEq, exists_eq_left', exists_eq_left, src_itm A.at.2, itms_dS]
  refine loop _ R _ _ _ _ _ _ _ (by rfl) gR.nm ?_ ?_
  · intro env h' x i Q hm e5 e6 q
    simp -implicitDefEqProofs only [k_asg, k_setE, k_asg2, k_ret, k_expr, k_if, k_nx, k_bk, k_ct, k_var, k_lit, k_bin, k_then, k_bf, k_nil, k_cons, k_f1, k_new, k_al, k_tup, k_lst, k_call, k_and, k_or, k_not, k_ifx, k_tru, k_tcmp, k_tand, k_tor, k_tnot, k_chain, k_tchn, k_ttrue, k_fld, k_make, k_meth, k_bmX, k_sub, k_setF, k_lc, k_dc, k_for, k_ival, k_iitems, k_irng, k_turn, k_dturn, ok_ok, ok_opt, bl_bl, List.getElem?_cons_zero, List.getElem?_cons_succ, Option.join_some, List.set_cons_succ, List.set_cons_zero, own_int, own_str, b_add, b_sub, k_intI, c_eqI, c_neI, c_lt, c_ge, c_gt, List.length_cons, List.length_nil, List.cons_append, List.nil_append, Nat.zero_add, lim_ok, Nat.reduceAdd, Nat.reduceLeDiff, true_and, ne_eq, reduceCtorEq, not_false_eq_true, and_true, bk_str, List.cons.injEq, Val.int.injEq, wipeE, lock_none, unlock_none, if_T, if_F, Bool.false_eq_true, c_ltI, c_leI, k_sl, k_part, k_pnone, MP.sl_str, tr_bl, k_par2C, g_tp2, tm_join, tm_append, tm_clearL, tm_clearD, tm_extend, tm_pop, tm_get, tm_split, tm_partition, Option.some.injEq, exists_eq_left', exists_eq_left, e5, e6]
    refine (h0 h' x (nm_len (gR.nm _ hm))).imp ?_
    rintro v h3 ⟨rfl, l4⟩
    rw [decide_eq_true (gR.nm _ hm)]
    simp -implicitDefEqProofs only [k_asg, k_setE, k_asg2, k_ret, k_expr, k_if, k_nx, k_bk, k_ct, k_var, k_lit, k_bin, k_then, k_bf, k_nil, k_cons, k_f1, k_new, k_al, k_tup, k_lst, k_call, k_and, k_or, k_not, k_ifx, k_tru, k_tcmp, k_tand, k_tor, k_tnot, k_chain, k_tchn, k_ttrue, k_fld, k_make, k_meth, k_bmX, k_sub, k_setF, k_lc, k_dc, k_for, k_ival, k_iitems, k_irng, k_turn, k_dturn, ok_ok, ok_opt, bl_bl, List.getElem?_cons_zero, List.getElem?_cons_succ, Option.join_some, List.set_cons_succ, List.set_cons_zero, own_int, own_str, b_add, b_sub, k_intI, c_eqI, c_neI, c_lt, c_ge, c_gt, List.length_cons, List.length_nil, List.cons_append, List.nil_append, Nat.zero_add, lim_ok, Nat.reduceAdd, Nat.reduceLeDiff, true_and, ne_eq, reduceCtorEq, not_false_eq_true, and_true, bk_str, List.cons.injEq, Val.int.injEq, wipeE, lock_none, unlock_none, if_T, if_F, Bool.false_eq_true, c_ltI, c_leI, k_sl, k_part, k_pnone, MP.sl_str, tr_bl, k_par2C, g_tp2, tm_join, tm_append, tm_clearL, tm_clearD, tm_extend, tm_pop, tm_get, tm_split, tm_partition, Option.some.injEq, exists_eq_left', exists_eq_left, if_true, Bool.not_true]
    refine (h1 h3 i).imp ?_
    rintro v h5 ⟨rfl, l5⟩
    simp -implicitDefEqProofs only [k_asg, k_setE, k_asg2, k_ret, k_expr, k_if, k_nx, k_bk, k_ct, k_var, k_lit, k_bin, k_then, k_bf, k_nil, k_cons, k_f1, k_new, k_al, k_tup, k_lst, k_call, k_and, k_or, k_not, k_ifx, k_tru, k_tcmp, k_tand, k_tor, k_tnot, k_chain, k_tchn, k_ttrue, k_fld, k_make, k_meth, k_bmX, k_sub, k_setF, k_lc, k_dc, k_for, k_ival, k_iitems, k_irng, k_turn, k_dturn, ok_ok, ok_opt, bl_bl, List.getElem?_cons_zero, List.getElem?_cons_succ, Option.join_some, List.set_cons_succ, List.set_cons_zero, own_int, own_str, b_add, b_sub, k_intI, c_eqI, c_neI, c_lt, c_ge, c_gt, List.length_cons, List.length_nil, List.cons_append, List.nil_append, Nat.zero_add, lim_ok, Nat.reduceAdd, Nat.reduceLeDiff, true_and, ne_eq, reduceCtorEq, not_false_eq_true, and_true, bk_str, List.cons.injEq, Val.int.injEq, wipeE, lock_none, unlock_none, if_T, if_F, Bool.false_eq_true, c_ltI, c_leI, k_sl, k_part, k_pnone, MP.sl_str, tr_bl, k_par2C, g_tp2, tm_join, tm_append, tm_clearL, tm_clearD, tm_extend, tm_pop, tm_get, tm_split, tm_partition, Option.some.injEq, exists_eq_left', exists_eq_left, if_true, Bool.not_true]
    rw [decide_eq_false (by have := pR _ hm; dsimp only at this; omega)]
    exact q _ (l4.trans l5)
  intro env1 g1 lg1 e1 n1
  have l4 := Fr.unlock lg1
  refine hK _ _ ?_
  clear hK K
  have B1 := A.lx l4
  have B1' := A'.lx l4
  have s4 := l3.trans l4
  generalize unlockH g g1 (some h.length) = g2 at *
  have e13 : env1[3]? = some (some (.ref h.length)) := (e1 3 (by decide)).trans rfl
  have e14 : env1[4]? = some (some (.ref b)) := (e1 4 (by decide)).trans rfl
  have e10 : env1[0]? = some (some (.ref s)) := (e1 0 (by decide)).trans rfl
  with_reducible refine k_seqK fun K hK => ?_
  simp -implicitDefEqProofs only [k_asg, k_setE, k_asg2, k_ret, k_expr, k_if, k_nx, k_bk, k_ct, k_var, k_lit, k_bin, k_then, k_bf, k_nil, k_cons, k_f1, k_new, k_al, k_tup, k_lst, k_call, k_and, k_or, k_not, k_ifx, k_tru, k_tcmp, k_tand, k_tor, k_tnot, k_chain, k_tchn, k_ttrue, k_fld, k_make, k_meth, k_bmX, k_sub, k_setF, k_lc, k_dc, k_for, k_ival, k_iitems, k_irng, k_turn, k_dturn, ok_ok, ok_opt, bl_bl, List.getElem?_cons_zero, List.getElem?_cons_succ, Option.join_some, List.set_cons_succ, List.set_cons_zero, own_int, own_str, b_add, b_sub, k_intI, c_eqI, c_neI, c_lt, c_ge, c_gt, List.length_cons, List.length_nil, List.cons_append, List.nil_append, Nat.zero_add, lim_ok, Nat.reduceAdd, Nat.reduceLeDiff, true_and, ne_eq, reduceCtorEq, not_false_eq_true, and_true, bk_str, List.cons.injEq, Val.int.injEq, wipeE, lock_none, unlock_none, if_T, if_F, Bool.false_eq_true, c_ltI, c_leI, k_sl, k_part, k_pnone, MP.sl_str, tr_bl, k_par2C, g_tp2, tm_join, tm_append, tm_clearL, tm_clearD, tm_extend, tm_pop, tm_get, tm_split, tm_partition, Option.some.injEq, exists_eq_left', exists_eq_left, src_itm B1'.at.2, itms_dS, e14]
  refine loop _ C _ _ _ _ _ _ _ n1 gC.nm ?_ ?_
  · intro env h' x i Q hm e5 e6 q
    simp -implicitDefEqProofs only [k_asg, k_setE, k_asg2, k_ret, k_expr, k_if, k_nx, k_bk, k_ct, k_var, k_lit, k_bin, k_then, k_bf, k_nil, k_cons, k_f1, k_new, k_al, k_tup, k_lst, k_call, k_and, k_or, k_not, k_ifx, k_tru, k_tcmp, k_tand, k_tor, k_tnot, k_chain, k_tchn, k_ttrue, k_fld, k_make, k_meth, k_bmX, k_sub, k_setF, k_lc, k_dc, k_for, k_ival, k_iitems, k_irng, k_turn, k_dturn, ok_ok, ok_opt, bl_bl, List.getElem?_cons_zero, List.getElem?_cons_succ, Option.join_some, List.set_cons_succ, List.set_cons_zero, own_int, own_str, b_add, b_sub, k_intI, c_eqI, c_neI, c_lt, c_ge, c_gt, List.length_cons, List.length_nil, List.cons_append, List.nil_append, Nat.zero_add, lim_ok, Nat.reduceAdd, Nat.reduceLeDiff, true_and, ne_eq, reduceCtorEq, not_false_eq_true, and_true, bk_str, List.cons.injEq, Val.int.injEq, wipeE, lock_none, unlock_none, if_T, if_F, Bool.false_eq_true, c_ltI, c_leI, k_sl, k_part, k_pnone, MP.sl_str, tr_bl, k_par2C, g_tp2, tm_join, tm_append, tm_clearL, tm_clearD, tm_extend, tm_pop, tm_get, tm_split, tm_partition, Option.some.injEq, exists_eq_left', exists_eq_left, e5, e6]
    refine (h0 h' x (nm_len (gC.nm _ hm))).imp ?_
    rintro v h3 ⟨rfl, l4⟩
    rw [decide_eq_true (gC.nm _ hm)]
    simp -implicitDefEqProofs only [k_asg, k_setE, k_asg2, k_ret, k_expr, k_if, k_nx, k_bk, k_ct, k_var, k_lit, k_bin, k_then, k_bf, k_nil, k_cons, k_f1, k_new, k_al, k_tup, k_lst, k_call, k_and, k_or, k_not, k_ifx, k_tru, k_tcmp, k_tand, k_tor, k_tnot, k_chain, k_tchn, k_ttrue, k_fld, k_make, k_meth, k_bmX, k_sub, k_setF, k_lc, k_dc, k_for, k_ival, k_iitems, k_irng, k_turn, k_dturn, ok_ok, ok_opt, bl_bl, List.getElem?_cons_zero, List.getElem?_cons_succ, Option.join_some, List.set_cons_succ, List.set_cons_zero, own_int, own_str, b_add, b_sub, k_intI, c_eqI, c_neI, c_lt, c_ge, c_gt, List.length_cons, List.length_nil, List.cons_append, List.nil_append, Nat.zero_add, lim_ok, Nat.reduceAdd, Nat.reduceLeDiff, true_and, ne_eq, reduceCtorEq, not_false_eq_true, and_true, bk_str, List.cons.injEq, Val.int.injEq, wipeE, lock_none, unlock_none, if_T, if_F, Bool.false_eq_true, c_ltI, c_leI, k_sl, k_part, k_pnone, MP.sl_str, tr_bl, k_par2C, g_tp2, tm_join, tm_append, tm_clearL, tm_clearD, tm_extend, tm_pop, tm_get, tm_split, tm_partition, Option.some.injEq, exists_eq_left', exists_eq_left, if_true, Bool.not_true]
    refine (h1 h3 i).imp ?_
    rintro v h5 ⟨rfl, l5⟩
    simp -implicitDefEqProofs only [k_asg, k_setE, k_asg2, k_ret, k_expr, k_if, k_nx, k_bk, k_ct, k_var, k_lit, k_bin, k_then, k_bf, k_nil, k_cons, k_f1, k_new, k_al, k_tup, k_lst, k_call, k_and, k_or, k_not, k_ifx, k_tru, k_tcmp, k_tand, k_tor, k_tnot, k_chain, k_tchn, k_ttrue, k_fld, k_make, k_meth, k_bmX, k_sub, k_setF, k_lc, k_dc, k_for, k_ival, k_iitems, k_irng, k_turn, k_dturn, ok_ok, ok_opt, bl_bl, List.getElem?_cons_zero, List.getElem?_cons_succ, Option.join_some, List.set_cons_succ, List.set_cons_zero, own_int, own_str, b_add, b_sub, k_intI, c_eqI, c_neI, c_lt, c_ge, c_gt, List.length_cons, List.length_nil, List.cons_append, List.nil_append, Nat.zero_add, lim_ok, Nat.reduceAdd, Nat.reduceLeDiff, true_and, ne_eq, reduceCtorEq, not_false_eq_true, and_true, bk_str, List.cons.injEq, Val.int.injEq, wipeE, lock_none, unlock_none, if_T, if_F, Bool.false_eq_true, c_ltI, c_leI, k_sl, k_part, k_pnone, MP.sl_str, tr_bl, k_par2C, g_tp2, tm_join, tm_append, tm_clearL, tm_clearD, tm_extend, tm_pop, tm_get, tm_split, tm_partition, Option.some.injEq, exists_eq_left', exists_eq_left, if_true, Bool.not_true]
    exact q _ (l4.trans l5)
  intro env2 g3 lg3 e2 n2
  have l5 := Fr.unlock lg3
  refine hK _ _ ?_
  clear hK K loop
  have B2 := B1.lx l5
  have B2' := B1'.lx l5
  have s5 := s4.trans l5
  generalize unlockH g2 g3 (some b) = g4 at *
  have e23 := (e2 3 (by decide)).trans e13
  have e24 := (e2 4 (by decide)).trans e14
  have e20 := (e2 0 (by decide)).trans e10
  with_reducible refine k_seqK fun K hK => ?_
  simp -implicitDefEqProofs only [k_asg, k_setE, k_asg2, k_ret, k_expr, k_if, k_nx, k_bk, k_ct, k_var, k_lit, k_bin, k_then, k_bf, k_nil, k_cons, k_f1, k_new, k_al, k_tup, k_lst, k_call, k_and, k_or, k_not, k_ifx, k_tru, k_tcmp, k_tand, k_tor, k_tnot, k_chain, k_tchn, k_ttrue, k_fld, k_make, k_meth, k_bmX, k_sub, k_setF, k_lc, k_dc, k_for, k_ival, k_iitems, k_irng, k_turn, k_dturn, ok_ok, ok_opt, bl_bl, List.getElem?_cons_zero, List.getElem?_cons_succ, Option.join_some, List.set_cons_succ, List.set_cons_zero, own_int, own_str, b_add, b_sub, k_intI, c_eqI, c_neI, c_lt, c_ge, c_gt, List.length_cons, List.length_nil, List.cons_append, List.nil_append, Nat.zero_add, lim_ok, Nat.reduceAdd, Nat.reduceLeDiff, true_and, ne_eq, reduceCtorEq, not_false_eq_true, and_true, bk_str, List.cons.injEq, Val.int.injEq, wipeE, lock_none, unlock_none, if_T, if_F, Bool.false_eq_true, c_ltI, c_leI, k_sl, k_part, k_pnone, MP.sl_str, tr_bl, k_par2C, g_tp2, tm_join, tm_append, tm_clearL, tm_clearD, tm_extend, tm_pop, tm_get, tm_split, tm_partition, Option.some.injEq, exists_eq_left', exists_eq_left, e20, e23, e24]
  have hp4 : 0 < g4.length := Nat.lt_of_lt_of_le hp s5.len
  refine (h2 g4 h.length R hp4 B2.at gR.nd (by have := gR.few; omega)).imp ?_
  rintro v g5 ⟨ra, rfl, hra, Ar, l6⟩
  try simp -implicitDefEqProofs only [k_asg, k_setE, k_asg2, k_ret, k_expr, k_if, k_nx, k_bk, k_ct, k_var, k_lit, k_bin, k_then, k_bf, k_nil, k_cons, k_f1, k_new, k_al, k_tup, k_lst, k_call, k_and, k_or, k_not, k_ifx, k_tru, k_tcmp, k_tand, k_tor, k_tnot, k_chain, k_tchn, k_ttrue, k_fld, k_make, k_meth, k_bmX, k_sub, k_setF, k_lc, k_dc, k_for, k_ival, k_iitems, k_irng, k_turn, k_dturn, ok_ok, ok_opt, bl_bl, List.getElem?_cons_zero, List.getElem?_cons_succ, Option.join_some, List.set_cons_succ, List.set_cons_zero, own_int, own_str, b_add, b_sub, k_intI, c_eqI, c_neI, c_lt, c_ge, c_gt, List.length_cons, List.length_nil, List.cons_append, List.nil_append, Nat.zero_add, lim_ok, Nat.reduceAdd, Nat.reduceLeDiff, true_and, ne_eq, reduceCtorEq, not_false_eq_true, and_true, bk_str, List.cons.injEq, Val.int.injEq, wipeE, lock_none, unlock_none, if_T, if_F, Bool.false_eq_true, c_ltI, c_leI, k_sl, k_part, k_pnone, MP.sl_str, tr_bl, k_par2C, g_tp2, tm_join, tm_append, tm_clearL, tm_clearD, tm_extend, tm_pop, tm_get, tm_split, tm_partition, Option.some.injEq, exists_eq_left', exists_eq_left]
  have hs5 := hs.lx (s5.trans l6)
  refine ⟨s, k, [], rfl, hs5.2, T.n1, by decide, hK _ _ ?_⟩
  clear hK K
  rw [setF1]
  have hsne : s ≠ ra := fun e => by have := hs.lt; have := s5.len; omega
  have f6 : Fr (fun x => x = s) h (g5.set s (false, .ins k [("own_rows", .ref ra)])) := ((s5.trans l6).imp fun _ z => z.elim).trans (Fr.set rfl)
  have Ar6 : Aw (g5.set s (false, .ins k [("own_rows", .ref ra)])) ra (.dct (dI (lessL R))) := ⟨Ar.1, by rw [List.getElem?_set_ne hsne]; exact Ar.2⟩
  have As6 : Aw (g5.set s (false, .ins k [("own_rows", .ref ra)])) s (.ins k [("own_rows", .ref ra)]) := ⟨hs.1, set_at hs5.2⟩
  have hbs : s ≠ b := fun e => by have := hs.lt; omega
  have Ac6 : Aw (g5.set s (false, .ins k [("own_rows", .ref ra)])) b (.dct (dI C)) := ⟨B2'.1, by rw [List.getElem?_set_ne hbs]; exact (B2'.lx l6).2⟩
  generalize g5.set s (false, .ins k [("own_rows", .ref ra)]) = g6 at *
  with_reducible refine k_seqK fun K hK => ?_
  simp -implicitDefEqProofs only [k_asg, k_setE, k_asg2, k_ret, k_expr, k_if, k_nx, k_bk, k_ct, k_var, k_lit, k_bin, k_then, k_bf, k_nil, k_cons, k_f1, k_new, k_al, k_tup, k_lst, k_call, k_and, k_or, k_not, k_ifx, k_tru, k_tcmp, k_tand, k_tor, k_tnot, k_chain, k_tchn, k_ttrue, k_fld, k_make, k_meth, k_bmX, k_sub, k_setF, k_lc, k_dc, k_for, k_ival, k_iitems, k_irng, k_turn, k_dturn, ok_ok, ok_opt, bl_bl, List.getElem?_cons_zero, List.getElem?_cons_succ, Option.join_some, List.set_cons_succ, List.set_cons_zero, own_int, own_str, b_add, b_sub, k_intI, c_eqI, c_neI, c_lt, c_ge, c_gt, List.length_cons, List.length_nil, List.cons_append, List.nil_append, Nat.zero_add, lim_ok, Nat.reduceAdd, Nat.reduceLeDiff, true_and, ne_eq, reduceCtorEq, not_false_eq_true, and_true, bk_str, List.cons.injEq, Val.int.injEq, wipeE, lock_none, unlock_none, if_T, if_F, Bool.false_eq_true, c_ltI, c_leI, k_sl, k_part, k_pnone, MP.sl_str, tr_bl, k_par2C, g_tp2, tm_join, tm_append, tm_clearL, tm_clearD, tm_extend, tm_pop, tm_get, tm_split, tm_partition, Option.some.injEq, exists_eq_left', exists_eq_left, e20, e23, e24]
  have hp6 : 0 < g6.length := Nat.lt_of_lt_of_le hp f6.len
  refine (h2 g6 b C hp6 Ac6.at gC.nd (by have := gC.few; omega)).imp ?_
  rintro v g7 ⟨ca, rfl, hca, Ac, l7⟩
  try simp -implicitDefEqProofs only [k_asg, k_setE, k_asg2, k_ret, k_expr, k_if, k_nx, k_bk, k_ct, k_var, k_lit, k_bin, k_then, k_bf, k_nil, k_cons, k_f1, k_new, k_al, k_tup, k_lst, k_call, k_and, k_or, k_not, k_ifx, k_tru, k_tcmp, k_tand, k_tor, k_tnot, k_chain, k_tchn, k_ttrue, k_fld, k_make, k_meth, k_bmX, k_sub, k_setF, k_lc, k_dc, k_for, k_ival, k_iitems, k_irng, k_turn, k_dturn, ok_ok, ok_opt, bl_bl, List.getElem?_cons_zero, List.getElem?_cons_succ, Option.join_some, List.set_cons_succ, List.set_cons_zero, own_int, own_str, b_add, b_sub, k_intI, c_eqI, c_neI, c_lt, c_ge, c_gt, List.length_cons, List.length_nil, List.cons_append, List.nil_append, Nat.zero_add, lim_ok, Nat.reduceAdd, Nat.reduceLeDiff, true_and, ne_eq, reduceCtorEq, not_false_eq_true, and_true, bk_str, List.cons.injEq, Val.int.injEq, wipeE, lock_none, unlock_none, if_T, if_F, Bool.false_eq_true, c_ltI, c_leI, k_sl, k_part, k_pnone, MP.sl_str, tr_bl, k_par2C, g_tp2, tm_join, tm_append, tm_clearL, tm_clearD, tm_extend, tm_pop, tm_get, tm_split, tm_partition, Option.some.injEq, exists_eq_left', exists_eq_left]
  have hs7 := As6.lx l7
  refine ⟨s, k, _, rfl, hs7.2, T.n2, by show 1 < 100; decide, hK _ _ ?_⟩
  clear hK K
  rw [setF2]
  have hsca : s ≠ ca := fun e => by have := As6.lt; omega
  refine ⟨ra, ca, ⟨hs.1, set_at hs7.2⟩, ⟨Ar6.1, by rw [List.getElem?_set_ne hsne]; exact (Ar6.lx l7).2⟩, ⟨Ac.1, by rw [List.getElem?_set_ne hsca]; exact Ac.2⟩, ?_, ?_, ?_⟩
  · exact (f6.trans (l7.imp fun _ z => z.elim)).trans (Fr.set rfl)
  · have := s5.len; omega
  · have := f6.len; omega
/-- a table -/
def IsTab (k : Nat) (h : Heap) (v : Val) (R C : List (Str × Int)) : Prop := ∃ s ra ca, v = .ref s ∧ At h s (.ins k (tabF ra ca)) ∧ At h ra (.dct (dI (lessL R))) ∧ At h ca (.dct (dI (lessL C)))
theorem IsTab.le {k : Nat} {h h' : Heap} {v : Val} {R C : List (Str × Int)} (t : IsTab k h v R C) (l : Le h h') : IsTab k h' v R C := by
  obtain ⟨s, ra, ca, e, a, b, c⟩ := t
  exact ⟨s, ra, ca, e, a.le l, b.le l, c.le l⟩
theorem IsTab.lock {k : Nat} {h : Heap} {v : Val} {R C : List (Str × Int)} (t : IsTab k h v R C) (lk : Option Nat) : IsTab k (lockH h lk) v R C := by
  obtain ⟨s, ra, ca, e, a, b, c⟩ := t
  exact ⟨s, ra, ca, e, a.lock lk, b.lock lk, c.lock lk⟩
/-- __init__ -/
def InitOk (k : Nat) (c : Cl) : Prop := ∀ (h : Heap) (s : Nat) (rv cv : Val) (R C : List (Str × Int)), Aw h s (.ins k []) → DL h rv R → DL h cv C → Good1 R → Good1 C → (∀ p ∈ R, 0 ≤ p.2) →
  Ok (c [.ref s, rv, cv] h) fun v h' => v = .non ∧ ∃ ra ca, Aw h' s (.ins k (tabF ra ca)) ∧ Aw h' ra (.dct (dI (lessL R))) ∧ Aw h' ca (.dct (dI (lessL C))) ∧ Fr (fun x => x = s) h h' ∧ h.length ≤ ra ∧ h.length ≤ ca
/-- making a table -/
theorem make_tabA {k : Nat} {c : Cl} (hc : InitOk k c) {h : Heap} {rv cv : Val} {R C : List (Str × Int)} (hp : 0 < h.length) (dr : DL h rv R) (dc : DL h cv C) (gR : Good1 R) (gC : Good1 C) (pR : ∀ p ∈ R, 0 ≤ p.2) {Q : Heap → Prop}
    (q : ∀ h' ra ca, At h' h.length (.ins k (tabF ra ca)) → At h' ra (.dct (dI (lessL R))) → At h' ca (.dct (dI (lessL C))) → h.length ≤ ra → h.length ≤ ca → Lx h h' → Q h') : Ok (c [.ref h.length, rv, cv] (mk0 k h)) fun v h2 => v = .non ∧ Q h2 := by
  have l : Lx h (mk0 k h) := Fr.app _ _ _
  refine (hc (mk0 k h) h.length rv cv R C (Aw.new hp) (dr.le l.le) (dc.le l.le) gR gC pR).imp ?_
  rintro v h' ⟨rfl, ra, ca, a, b, c', f, h1, h2⟩
  refine ⟨rfl, q h' ra ca a.at b.at c'.at (Nat.le_trans l.len h1) (Nat.le_trans l.len h2) ⟨Nat.le_trans l.len f.len, fun x cc _ e => ?_⟩⟩
  exact f.keep x cc (fun z => by subst z; exact absurd (lt_of_get e) (Nat.lt_irrefl _)) (l.keep x cc id e)
theorem make_tab {k : Nat} {c : Cl} (hc : InitOk k c) {h : Heap} {rv cv : Val} {R C : List (Str × Int)} (hp : 0 < h.length) (dr : DL h rv R) (dc : DL h cv C) (gR : Good1 R) (gC : Good1 C) (pR : ∀ p ∈ R, 0 ≤ p.2) {Q : Heap → Prop}
    (q : ∀ h', IsTab k h' (.ref h.length) R C → Lx h h' → Q h') : Ok (c [.ref h.length, rv, cv] (mk0 k h)) fun v h2 => v = .non ∧ Q h2 :=
  make_tabA hc hp dr dc gR gC pR fun h' ra ca a b c' _ _ l => q h' ⟨_, ra, ca, rfl, a, b, c'⟩ l
/-! ### methods -/
def rowsS (tb : Tb) (cf : Cf) (f : Str) : Fs :=
  sSeq (sRet (eIf (tAndF (eTru (xBf (eCons (xVar 1) (eCons (xLit (.ty "str")) (aNil))) (isiV tb.tt))) (tCmp (cmpF tb cf .In) (xVar 1) (eFld (fun c => tb.na c f) f (xVar 0)))) (xBin ixV (eFld (fun c => tb.na c f) f (xVar 0)) (xVar 1)) (xLit (.int 0)))) (sNx)
theorem c_inD {tb : Tb} {cf : Cf} {x : Str} {t : Nat} {h : Heap} {kvs : List (Key × Val)} (e : rd h t = some (.dct kvs)) : cmpF tb cf .In (.str x) (.ref t) h = .ok (.bl (lookK kvs (.inr x)).isSome) h := by
  show cop .in_ (.str x) (.ref t) h = _
  unfold cop
  simp only [e]
  rfl
/-- rows, worth: of a text -/
theorem rows_ok {tb : Tb} {cf : Cf} {f : Str} {k s ra : Nat} {fl : List (Str × Val)} (T : TT tb k) (hna : tb.na k f = true) {h : Heap} {l : List (Str × Int)} {x : Str} (A : At h s (.ins k fl)) (hf : fl.lookup f = some (.ref ra)) (B : At h ra (.dct (dI (lessL l)))) {nx bk ct : Env → Heap → Prop} :
    OkS (rowsS tb cf f [some (.ref s), some (.str x)] h) nx (fun v h' => v = .int (look0 l x) ∧ h' = h) bk ct := by
  unfold rowsS
  simp -implicitDefEqProofs only [k_asg, k_setE, k_asg2, k_ret, k_expr, k_if, k_nx, k_bk, k_ct, k_var, k_lit, k_bin, k_then, k_bf, k_nil, k_cons, k_f1, k_new, k_al, k_tup, k_lst, k_call, k_and, k_or, k_not, k_ifx, k_tru, k_tcmp, k_tand, k_tor, k_tnot, k_chain, k_tchn, k_ttrue, k_fld, k_make, k_meth, k_bmX, k_sub, k_setF, k_lc, k_dc, k_for, k_ival, k_iitems, k_irng, k_turn, k_dturn, ok_ok, ok_opt, bl_bl, List.getElem?_cons_zero, List.getElem?_cons_succ, Option.join_some, List.set_cons_succ, List.set_cons_zero, own_int, own_str, b_add, b_sub, k_intI, c_eqI, c_neI, c_lt, c_ge, c_gt, List.length_cons, List.length_nil, List.cons_append, List.nil_append, Nat.zero_add, lim_ok, Nat.reduceAdd, Nat.reduceLeDiff, true_and, ne_eq, reduceCtorEq, not_false_eq_true, and_true, bk_str, List.cons.injEq, Val.int.injEq, wipeE, lock_none, unlock_none, if_T, if_F, Bool.false_eq_true, c_ltI, c_leI, k_sl, k_part, k_pnone, MP.sl_str, tr_bl, k_par2C, g_tp2, tm_join, tm_append, tm_clearL, tm_clearD, tm_extend, tm_pop, tm_get, tm_split, tm_partition, Option.some.injEq, exists_eq_left', exists_eq_left, k_seq, isi_str T.ss, if_true, in_of A.2, hna, hf, c_inD B.2, look_dS]
  rw [← lessL_look]
  unfold look0
  cases e : (lessL l).lookup x with
  | none => simp
  | some v =>
    simp only [Option.map_some, Option.isSome_some, if_true]
    simp -implicitDefEqProofs only [k_asg, k_setE, k_asg2, k_ret, k_expr, k_if, k_nx, k_bk, k_ct, k_var, k_lit, k_bin, k_then, k_bf, k_nil, k_cons, k_f1, k_new, k_al, k_tup, k_lst, k_call, k_and, k_or, k_not, k_ifx, k_tru, k_tcmp, k_tand, k_tor, k_tnot, k_chain, k_tchn, k_ttrue, k_fld, k_make, k_meth, k_bmX, k_sub, k_setF, k_lc, k_dc, k_for, k_ival, k_iitems, k_irng, k_turn, k_dturn, ok_ok, ok_opt, bl_bl, List.getElem?_cons_zero, List.getElem?_cons_succ, Option.join_some, List.set_cons_succ, List.set_cons_zero, own_int, own_str, b_add, b_sub, k_intI, c_eqI, c_neI, c_lt, c_ge, c_gt, List.length_cons, List.length_nil, List.cons_append, List.nil_append, Nat.zero_add, lim_ok, Nat.reduceAdd, Nat.reduceLeDiff, true_and, ne_eq, reduceCtorEq, not_false_eq_true, and_true, bk_str, List.cons.injEq, Val.int.injEq, wipeE, lock_none, unlock_none, if_T, if_F, Bool.false_eq_true, c_ltI, c_leI, k_sl, k_part, k_pnone, MP.sl_str, tr_bl, k_par2C, g_tp2, tm_join, tm_append, tm_clearL, tm_clearD, tm_extend, tm_pop, tm_get, tm_split, tm_partition, Option.some.injEq, exists_eq_left', exists_eq_left, in_of A.2, hna, hf, ix_dct B.2, look_dS, e, Option.map_some, Option.getD_some, and_self]
/-- rows, worth: of anything else -/
theorem rows_odd {tb : Tb} {cf : Cf} {f : Str} {s : Nat} {h : Heap} {v : Val} {t : Ty} (ht : tyOf v h = some t) (htt : tb.tt t (.b "str") = some false) {nx bk ct : Env → Heap → Prop} :
    OkS (rowsS tb cf f [some (.ref s), some v] h) nx (fun v h' => v = .int 0 ∧ h' = h) bk ct := by
  have e : isiV tb.tt [v, .ty "str"] h = .ok (.bl false) h := by unfold isiV; simp only [ht, htt]
  unfold rowsS
  simp -implicitDefEqProofs only [k_asg, k_setE, k_asg2, k_ret, k_expr, k_if, k_nx, k_bk, k_ct, k_var, k_lit, k_bin, k_then, k_bf, k_nil, k_cons, k_f1, k_new, k_al, k_tup, k_lst, k_call, k_and, k_or, k_not, k_ifx, k_tru, k_tcmp, k_tand, k_tor, k_tnot, k_chain, k_tchn, k_ttrue, k_fld, k_make, k_meth, k_bmX, k_sub, k_setF, k_lc, k_dc, k_for, k_ival, k_iitems, k_irng, k_turn, k_dturn, ok_ok, ok_opt, bl_bl, List.getElem?_cons_zero, List.getElem?_cons_succ, Option.join_some, List.set_cons_succ, List.set_cons_zero, own_int, own_str, b_add, b_sub, k_intI, c_eqI, c_neI, c_lt, c_ge, c_gt, List.length_cons, List.length_nil, List.cons_append, List.nil_append, Nat.zero_add, lim_ok, Nat.reduceAdd, Nat.reduceLeDiff, true_and, ne_eq, reduceCtorEq, not_false_eq_true, and_true, bk_str, List.cons.injEq, Val.int.injEq, wipeE, lock_none, unlock_none, if_T, if_F, Bool.false_eq_true, c_ltI, c_leI, k_sl, k_part, k_pnone, MP.sl_str, tr_bl, k_par2C, g_tp2, tm_join, tm_append, tm_clearL, tm_clearD, tm_extend, tm_pop, tm_get, tm_split, tm_partition, Option.some.injEq, exists_eq_left', exists_eq_left, k_seq, e, and_self]
def kindsS (tb : Tb) (f : Str) : Fs :=
  sSeq (sRet (xBf (eCons (eFld (fun c => tb.na c f) f (xVar 0)) (aNil)) (MP.f1 listV))) (sNx)
theorem list_dct {α : Type} {f : α → Val} {h : Heap} {a : Nat} {l : List (Str × α)} (e : rd h a = some (.dct (dS f l))) : listV (.ref a) h = al h (.lst ((l.map (·.1)).map Val.str)) := by
  unfold listV
  simp only [e, vkeys_dS']
theorem kinds_ok {tb : Tb} {f : Str} {k s ra : Nat} {fl : List (Str × Val)} (hna : tb.na k f = true) {h : Heap} {l : List (Str × Int)} (A : At h s (.ins k fl)) (hf : fl.lookup f = some (.ref ra)) (B : At h ra (.dct (dI l))) {nx bk ct : Env → Heap → Prop} :
    OkS (kindsS tb f [some (.ref s)] h) nx (fun v h' => v = .ref h.length ∧ h' = h ++ [(false, .lst ((l.map (·.1)).map Val.str))]) bk ct := by
  unfold kindsS
  simp -implicitDefEqProofs only [k_asg, k_setE, k_asg2, k_ret, k_expr, k_if, k_nx, k_bk, k_ct, k_var, k_lit, k_bin, k_then, k_bf, k_nil, k_cons, k_f1, k_new, k_al, k_tup, k_lst, k_call, k_and, k_or, k_not, k_ifx, k_tru, k_tcmp, k_tand, k_tor, k_tnot, k_chain, k_tchn, k_ttrue, k_fld, k_make, k_meth, k_bmX, k_sub, k_setF, k_lc, k_dc, k_for, k_ival, k_iitems, k_irng, k_turn, k_dturn, ok_ok, ok_opt, bl_bl, List.getElem?_cons_zero, List.getElem?_cons_succ, Option.join_some, List.set_cons_succ, List.set_cons_zero, own_int, own_str, b_add, b_sub, k_intI, c_eqI, c_neI, c_lt, c_ge, c_gt, List.length_cons, List.length_nil, List.cons_append, List.nil_append, Nat.zero_add, lim_ok, Nat.reduceAdd, Nat.reduceLeDiff, true_and, ne_eq, reduceCtorEq, not_false_eq_true, and_true, bk_str, List.cons.injEq, Val.int.injEq, wipeE, lock_none, unlock_none, if_T, if_F, Bool.false_eq_true, c_ltI, c_leI, k_sl, k_part, k_pnone, MP.sl_str, tr_bl, k_par2C, g_tp2, tm_join, tm_append, tm_clearL, tm_clearD, tm_extend, tm_pop, tm_get, tm_split, tm_partition, Option.some.injEq, exists_eq_left', exists_eq_left, k_seq, in_of A.2, hna, hf, list_dct B.2, and_self]
def sizeS (tb : Tb) : Fs :=
  sSeq (sRet (xBf (eCons (xThen (eFld (fun c => tb.na c "own_rows") "own_rows" (xVar 0)) listValsV) (aNil)) (MP.f1 sumV))) (sNx)
theorem listVals_dct {α : Type} {f : α → Val} {h : Heap} {a : Nat} {l : List (Str × α)} (e : rd h a = some (.dct (dS f l))) : listValsV (.ref a) h = al h (.lst (l.map fun p => f p.2)) := by
  unfold listValsV dctOf
  simp only [e, vals_dS]
theorem size_ok {tb : Tb} {k s ra ca : Nat} (T : TT tb k) {h : Heap} {l : List (Str × Int)} (A : At h s (.ins k (tabF ra ca))) (B : At h ra (.dct (dI (lessL l)))) (hn : (l.map (·.1)).Nodup) {nx bk ct : Env → Heap → Prop} :
    OkS (sizeS tb [some (.ref s)] h) nx (fun v h' => v = .int (l.map (·.2)).sum ∧ Lx h h') bk ct := by
  unfold sizeS
  simp -implicitDefEqProofs only [k_asg, k_setE, k_asg2, k_ret, k_expr, k_if, k_nx, k_bk, k_ct, k_var, k_lit, k_bin, k_then, k_bf, k_nil, k_cons, k_f1, k_new, k_al, k_tup, k_lst, k_call, k_and, k_or, k_not, k_ifx, k_tru, k_tcmp, k_tand, k_tor, k_tnot, k_chain, k_tchn, k_ttrue, k_fld, k_make, k_meth, k_bmX, k_sub, k_setF, k_lc, k_dc, k_for, k_ival, k_iitems, k_irng, k_turn, k_dturn, ok_ok, ok_opt, bl_bl, List.getElem?_cons_zero, List.getElem?_cons_succ, Option.join_some, List.set_cons_succ, List.set_cons_zero, own_int, own_str, b_add, b_sub, k_intI, c_eqI, c_neI, c_lt, c_ge, c_gt, List.length_cons, List.length_nil, List.cons_append, List.nil_append, Nat.zero_add, lim_ok, Nat.reduceAdd, Nat.reduceLeDiff, true_and, ne_eq, reduceCtorEq, not_false_eq_true, and_true, bk_str, List.cons.injEq, Val.int.injEq, wipeE, lock_none, unlock_none, if_T, if_F, Bool.false_eq_true, c_ltI, c_leI, k_sl, k_part, k_pnone, MP.sl_str, tr_bl, k_par2C, g_tp2, tm_join, tm_append, tm_clearL, tm_clearD, tm_extend, tm_pop, tm_get, tm_split, tm_partition, Option.some.injEq, exists_eq_left', exists_eq_left, k_seq, in_of A.2, T.n1, tabF1, listVals_dct B.2]
  rw [sum_lst (bs := (lessL l).map (·.2)) (by rw [rd_new rfl, List.map_map]; rfl), ok_ok, lessL_sum l hn]
  exact ⟨rfl, Fr.app _ _ _⟩
def tabEqS (tb : Tb) (cf : Cf) (k : Nat) : Fs :=
  sSeq (sIf (tNotF (eTru (xBf (eCons (xVar 1) (eCons (xLit (.cls k)) (aNil))) (isiV tb.tt)))) (sSeq (sRet (xLit (.bl false))) (sNx)) (sNx)) (sSeq (sRet (eAnd (xBin (cmpF tb cf .Eq) (eFld (fun c => tb.na c "own_rows") "own_rows" (xVar 0)) (eFld (fun c => tb.na c "own_rows") "own_rows" (xVar 1))) (xBin (cmpF tb cf .Eq) (eFld (fun c => tb.na c "own_counters") "own_counters" (xVar 0)) (eFld (fun c => tb.na c "own_counters") "own_counters" (xVar 1))))) (sNx))
theorem isi_cls {tt : Ty → Ty → Option Bool} {v : Val} {t : Ty} {k : Nat} {b : Bool} {h : Heap} (ht : tyOf v h = some t) (e : tt t (.c k) = some b) : isiV tt [v, .cls k] h = .ok (.bl b) h := by
  unfold isiV
  simp only [ht, e]
theorem ty_ins {h : Heap} {s k : Nat} {fl : List (Str × Val)} (A : rd h s = some (.ins k fl)) : tyOf (.ref s) h = some (.c k) := by
  unfold tyOf
  simp only [A]
theorem eq_dcts {tb : Tb} {cf : Cf} {h : Heap} {a b : Nat} {ka kb : List (Key × Val)} {r : Bool} (A : rd h a = some (.dct ka)) (B : rd h b = some (.dct kb)) (e : (if ka.length = kb.length then eqDct h kb ka else some false) = some r) : cmpF tb cf .Eq (.ref a) (.ref b) h = .ok (.bl r) h := by
  show eqOp _ _ false (.ref a) (.ref b) h = _
  unfold eqOp
  have hi : insOf (.ref a) h = none := by unfold insOf; simp only [A]
  have e2 : eqV (.ref a) (.ref b) h = some r := by unfold eqV dctOf; simp only [A, B]; exact e
  rw [hi]
  dsimp only
  rw [e2]
  cases r <;> rfl
theorem ne_dcts {tb : Tb} {cf : Cf} {h : Heap} {a b : Nat} {ka kb : List (Key × Val)} {r : Bool} (A : rd h a = some (.dct ka)) (B : rd h b = some (.dct kb)) (e : (if ka.length = kb.length then eqDct h kb ka else some false) = some r) : cmpF tb cf .NotEq (.ref a) (.ref b) h = .ok (.bl (!r)) h := by
  show eqOp _ _ true (.ref a) (.ref b) h = _
  unfold eqOp
  have hi : insOf (.ref a) h = none := by unfold insOf; simp only [A]
  have e2 : eqV (.ref a) (.ref b) h = some r := by unfold eqV dctOf; simp only [A, B]; exact e
  rw [hi]
  dsimp only
  rw [e2]
  cases r <;> rfl
theorem tabEq_ok {tb : Tb} {cf : Cf} {k : Nat} (T : TT tb k) {h : Heap} {v u : Val} {R C R' C' : List (Str × Int)} (t : IsTab k h v R C) (t' : IsTab k h u R' C') (nR : (R.map (·.1)).Nodup) (nC : (C.map (·.1)).Nodup) (nR' : (R'.map (·.1)).Nodup) (nC' : (C'.map (·.1)).Nodup) {nx bk ct : Env → Heap → Prop} :
    OkS (tabEqS tb cf k [some v, some u] h) nx (fun v h' => v = .bl (decide (lessL R = lessL R' ∧ lessL C = lessL C')) ∧ h' = h) bk ct := by
  obtain ⟨s, ra, ca, rfl, a, b, c⟩ := t
  obtain ⟨s', ra', ca', rfl, a', b', c'⟩ := t'
  unfold tabEqS
  simp -implicitDefEqProofs only [k_asg, k_setE, k_asg2, k_ret, k_expr, k_if, k_nx, k_bk, k_ct, k_var, k_lit, k_bin, k_then, k_bf, k_nil, k_cons, k_f1, k_new, k_al, k_tup, k_lst, k_call, k_and, k_or, k_not, k_ifx, k_tru, k_tcmp, k_tand, k_tor, k_tnot, k_chain, k_tchn, k_ttrue, k_fld, k_make, k_meth, k_bmX, k_sub, k_setF, k_lc, k_dc, k_for, k_ival, k_iitems, k_irng, k_turn, k_dturn, ok_ok, ok_opt, bl_bl, List.getElem?_cons_zero, List.getElem?_cons_succ, Option.join_some, List.set_cons_succ, List.set_cons_zero, own_int, own_str, b_add, b_sub, k_intI, c_eqI, c_neI, c_lt, c_ge, c_gt, List.length_cons, List.length_nil, List.cons_append, List.nil_append, Nat.zero_add, lim_ok, Nat.reduceAdd, Nat.reduceLeDiff, true_and, ne_eq, reduceCtorEq, not_false_eq_true, and_true, bk_str, List.cons.injEq, Val.int.injEq, wipeE, lock_none, unlock_none, if_T, if_F, Bool.false_eq_true, c_ltI, c_leI, k_sl, k_part, k_pnone, MP.sl_str, tr_bl, k_par2C, g_tp2, tm_join, tm_append, tm_clearL, tm_clearD, tm_extend, tm_pop, tm_get, tm_split, tm_partition, Option.some.injEq, exists_eq_left', exists_eq_left, k_seq, isi_cls (ty_ins a'.2) T.cc, if_true, Bool.not_true, in_of a.2, in_of a'.2, T.n1, T.n2, tabF1, tabF2, eq_dcts b.2 b'.2 (eqDct_less h nR nR')]
  by_cases e : lessL R = lessL R'
  · rw [decide_eq_true e, if_pos rfl]
    simp -implicitDefEqProofs only [k_asg, k_setE, k_asg2, k_ret, k_expr, k_if, k_nx, k_bk, k_ct, k_var, k_lit, k_bin, k_then, k_bf, k_nil, k_cons, k_f1, k_new, k_al, k_tup, k_lst, k_call, k_and, k_or, k_not, k_ifx, k_tru, k_tcmp, k_tand, k_tor, k_tnot, k_chain, k_tchn, k_ttrue, k_fld, k_make, k_meth, k_bmX, k_sub, k_setF, k_lc, k_dc, k_for, k_ival, k_iitems, k_irng, k_turn, k_dturn, ok_ok, ok_opt, bl_bl, List.getElem?_cons_zero, List.getElem?_cons_succ, Option.join_some, List.set_cons_succ, List.set_cons_zero, own_int, own_str, b_add, b_sub, k_intI, c_eqI, c_neI, c_lt, c_ge, c_gt, List.length_cons, List.length_nil, List.cons_append, List.nil_append, Nat.zero_add, lim_ok, Nat.reduceAdd, Nat.reduceLeDiff, true_and, ne_eq, reduceCtorEq, not_false_eq_true, and_true, bk_str, List.cons.injEq, Val.int.injEq, wipeE, lock_none, unlock_none, if_T, if_F, Bool.false_eq_true, c_ltI, c_leI, k_sl, k_part, k_pnone, MP.sl_str, tr_bl, k_par2C, g_tp2, tm_join, tm_append, tm_clearL, tm_clearD, tm_extend, tm_pop, tm_get, tm_split, tm_partition, Option.some.injEq, exists_eq_left', exists_eq_left, in_of a.2, in_of a'.2, T.n1, T.n2, tabF1, tabF2, eq_dcts c.2 c'.2 (eqDct_less h nC nC')]
    simp [e]
  · rw [decide_eq_false e, if_neg Bool.false_ne_true]
    simp [e]
theorem tabEq_odd {tb : Tb} {cf : Cf} {k : Nat} {h : Heap} {v u : Val} {t : Ty} (ht : tyOf u h = some t) (htt : tb.tt t (.c k) = some false) {nx bk ct : Env → Heap → Prop} :
    OkS (tabEqS tb cf k [some v, some u] h) nx (fun v h' => v = .bl false ∧ h' = h) bk ct := by
  unfold tabEqS
  simp -implicitDefEqProofs only [k_asg, k_setE, k_asg2, k_ret, k_expr, k_if, k_nx, k_bk, k_ct, k_var, k_lit, k_bin, k_then, k_bf, k_nil, k_cons, k_f1, k_new, k_al, k_tup, k_lst, k_call, k_and, k_or, k_not, k_ifx, k_tru, k_tcmp, k_tand, k_tor, k_tnot, k_chain, k_tchn, k_ttrue, k_fld, k_make, k_meth, k_bmX, k_sub, k_setF, k_lc, k_dc, k_for, k_ival, k_iitems, k_irng, k_turn, k_dturn, ok_ok, ok_opt, bl_bl, List.getElem?_cons_zero, List.getElem?_cons_succ, Option.join_some, List.set_cons_succ, List.set_cons_zero, own_int, own_str, b_add, b_sub, k_intI, c_eqI, c_neI, c_lt, c_ge, c_gt, List.length_cons, List.length_nil, List.cons_append, List.nil_append, Nat.zero_add, lim_ok, Nat.reduceAdd, Nat.reduceLeDiff, true_and, ne_eq, reduceCtorEq, not_false_eq_true, and_true, bk_str, List.cons.injEq, Val.int.injEq, wipeE, lock_none, unlock_none, if_T, if_F, Bool.false_eq_true, c_ltI, c_leI, k_sl, k_part, k_pnone, MP.sl_str, tr_bl, k_par2C, g_tp2, tm_join, tm_append, tm_clearL, tm_clearD, tm_extend, tm_pop, tm_get, tm_split, tm_partition, Option.some.injEq, exists_eq_left', exists_eq_left, k_seq, isi_cls ht htt, if_true, Bool.not_false, and_self]
def tabAddS (tb : Tb) (k : Nat) (c3 c4 : Cl) : Fs :=
  sSeq (sRet (eMake k 3 c4 [] (eCons (eCall 2 c3 [] (eCons (eFld (fun c => tb.na c "own_rows") "own_rows" (xVar 0)) (eCons (eFld (fun c => tb.na c "own_rows") "own_rows" (xVar 1)) (aNil)))) (eCons (eCall 2 c3 [] (eCons (eFld (fun c => tb.na c "own_counters") "own_counters" (xVar 0)) (eCons (eFld (fun c => tb.na c "own_counters") "own_counters" (xVar 1)) (aNil)))) (aNil))))) (sNx)
theorem lessL_len (l : List (Str × Int)) : (lessL l).length ≤ l.length := by
  unfold lessL
  rw [List.length_map]
  refine Nat.le_trans (List.length_filter_le _ _) ?_
  rw [sortS_len, List.length_map]; exact Nat.le_refl _
theorem lessL_mem {l : List (Str × Int)} {p : Str × Int} (h : p ∈ lessL l) : p.1 ∈ l.map (·.1) ∧ p.2 = look0 l p.1 := by
  unfold lessL at h
  obtain ⟨x, hx, rfl⟩ := List.mem_map.mp h
  exact ⟨(sortS_perm _).mem_iff.mp (List.mem_filter.mp hx).1, rfl⟩
theorem Good1.less {l : List (Str × Int)} (g : Good1 l) : Good1 (lessL l) := ⟨lessL_nodup l g.nd, fun p hp => by
  obtain ⟨q, hq, e⟩ := List.mem_map.mp (lessL_mem hp).1
  rw [← e]; exact g.nm q hq, Nat.lt_of_le_of_lt (lessL_len l) g.few⟩
theorem lessL_pos {l : List (Str × Int)} (hl : ∀ p ∈ l, 0 ≤ p.2) : ∀ p ∈ lessL l, 0 ≤ p.2 := fun p hp => by
  rw [(lessL_mem hp).2]
  unfold look0
  cases e : l.lookup p.1 with
  | none => exact Int.le_refl _
  | some v => exact hl _ (lookup_mem e)
theorem Good1.add {l m : List (Str × Int)} (g : Good1 l) (g' : Good1 m) (few : l.length + m.length < 32) : Good1 (addL l m) := ⟨addL_nodup m l g.nd, fun p hp => by
  rcases addL_keys p.1 m l (List.mem_map.mpr ⟨p, hp, rfl⟩) with h | h
  · obtain ⟨q, hq, e⟩ := List.mem_map.mp h
    rw [← e]; exact g.nm q hq
  · obtain ⟨q, hq, e⟩ := List.mem_map.mp h
    rw [← e]; exact g'.nm q hq, Nat.lt_of_le_of_lt (addL_len m l) few⟩
/-- the sum of two tables -/
theorem tabAdd_ok {tb : Tb} {k : Nat} {c3 c4 : Cl} (T : TT tb k) (h3 : AddedOk c3) (h4 : InitOk k c4) {h : Heap} {v u : Val} {R C R' C' : List (Str × Int)} (hp : 0 < h.length) (t : IsTab k h v R C) (t' : IsTab k h u R' C') (gR : Good1 R) (gC : Good1 C) (gR' : Good1 R') (gC' : Good1 C')
    (pR : ∀ p ∈ R, 0 ≤ p.2) (pR' : ∀ p ∈ R', 0 ≤ p.2) (f1 : R.length + R'.length < 32) (f2 : C.length + C'.length < 32) {nx bk ct : Env → Heap → Prop} :
    OkS (tabAddS tb k c3 c4 [some v, some u] h) nx (fun v h' => IsTab k h' v (addL (lessL R) (lessL R')) (addL (lessL C) (lessL C')) ∧ Lx h h') bk ct := by
  have q1 := lessL_len R
  have q2 := lessL_len R'
  have q3 := lessL_len C
  have q4 := lessL_len C'
  obtain ⟨s, ra, ca, rfl, a, b, c⟩ := t
  obtain ⟨s', ra', ca', rfl, a', b', c'⟩ := t'
  unfold tabAddS
  simp -implicitDefEqProofs only [k_asg, k_setE, k_asg2, k_ret, k_expr, k_if, k_nx, k_bk, k_ct, k_var, k_lit, k_bin, k_then, k_bf, k_nil, k_cons, k_f1, k_new, k_al, k_tup, k_lst, k_call, k_and, k_or, k_not, k_ifx, k_tru, k_tcmp, k_tand, k_tor, k_tnot, k_chain, k_tchn, k_ttrue, k_fld, k_make, k_meth, k_bmX, k_sub, k_setF, k_lc, k_dc, k_for, k_ival, k_iitems, k_irng, k_turn, k_dturn, ok_ok, ok_opt, bl_bl, List.getElem?_cons_zero, List.getElem?_cons_succ, Option.join_some, List.set_cons_succ, List.set_cons_zero, own_int, own_str, b_add, b_sub, k_intI, c_eqI, c_neI, c_lt, c_ge, c_gt, List.length_cons, List.length_nil, List.cons_append, List.nil_append, Nat.zero_add, lim_ok, Nat.reduceAdd, Nat.reduceLeDiff, true_and, ne_eq, reduceCtorEq, not_false_eq_true, and_true, bk_str, List.cons.injEq, Val.int.injEq, wipeE, lock_none, unlock_none, if_T, if_F, Bool.false_eq_true, c_ltI, c_leI, k_sl, k_part, k_pnone, MP.sl_str, tr_bl, k_par2C, g_tp2, tm_join, tm_append, tm_clearL, tm_clearD, tm_extend, tm_pop, tm_get, tm_split, tm_partition, Option.some.injEq, exists_eq_left', exists_eq_left, k_seq, in_of a.2, in_of a'.2, T.n1, T.n2, tabF1, tabF2]
  refine (h3 h ra ra' _ _ hp b b' (lessL_nodup R gR.nd) (by omega)).imp ?_
  rintro v1 h1 ⟨r1, rfl, w1, l1⟩
  simp -implicitDefEqProofs only [k_asg, k_setE, k_asg2, k_ret, k_expr, k_if, k_nx, k_bk, k_ct, k_var, k_lit, k_bin, k_then, k_bf, k_nil, k_cons, k_f1, k_new, k_al, k_tup, k_lst, k_call, k_and, k_or, k_not, k_ifx, k_tru, k_tcmp, k_tand, k_tor, k_tnot, k_chain, k_tchn, k_ttrue, k_fld, k_make, k_meth, k_bmX, k_sub, k_setF, k_lc, k_dc, k_for, k_ival, k_iitems, k_irng, k_turn, k_dturn, ok_ok, ok_opt, bl_bl, List.getElem?_cons_zero, List.getElem?_cons_succ, Option.join_some, List.set_cons_succ, List.set_cons_zero, own_int, own_str, b_add, b_sub, k_intI, c_eqI, c_neI, c_lt, c_ge, c_gt, List.length_cons, List.length_nil, List.cons_append, List.nil_append, Nat.zero_add, lim_ok, Nat.reduceAdd, Nat.reduceLeDiff, true_and, ne_eq, reduceCtorEq, not_false_eq_true, and_true, bk_str, List.cons.injEq, Val.int.injEq, wipeE, lock_none, unlock_none, if_T, if_F, Bool.false_eq_true, c_ltI, c_leI, k_sl, k_part, k_pnone, MP.sl_str, tr_bl, k_par2C, g_tp2, tm_join, tm_append, tm_clearL, tm_clearD, tm_extend, tm_pop, tm_get, tm_split, tm_partition, Option.some.injEq, exists_eq_left', exists_eq_left, in_of (a.lx l1).2, in_of (a'.lx l1).2, T.n1, T.n2, tabF1, tabF2]
  have hp1 : 0 < h1.length := Nat.lt_of_lt_of_le hp l1.len
  refine (h3 h1 ca ca' _ _ hp1 (c.lx l1) (c'.lx l1) (lessL_nodup C gC.nd) (by omega)).imp ?_
  rintro v2 h2 ⟨r2, rfl, w2, l2⟩
  try simp -implicitDefEqProofs only [k_asg, k_setE, k_asg2, k_ret, k_expr, k_if, k_nx, k_bk, k_ct, k_var, k_lit, k_bin, k_then, k_bf, k_nil, k_cons, k_f1, k_new, k_al, k_tup, k_lst, k_call, k_and, k_or, k_not, k_ifx, k_tru, k_tcmp, k_tand, k_tor, k_tnot, k_chain, k_tchn, k_ttrue, k_fld, k_make, k_meth, k_bmX, k_sub, k_setF, k_lc, k_dc, k_for, k_ival, k_iitems, k_irng, k_turn, k_dturn, ok_ok, ok_opt, bl_bl, List.getElem?_cons_zero, List.getElem?_cons_succ, Option.join_some, List.set_cons_succ, List.set_cons_zero, own_int, own_str, b_add, b_sub, k_intI, c_eqI, c_neI, c_lt, c_ge, c_gt, List.length_cons, List.length_nil, List.cons_append, List.nil_append, Nat.zero_add, lim_ok, Nat.reduceAdd, Nat.reduceLeDiff, true_and, ne_eq, reduceCtorEq, not_false_eq_true, and_true, bk_str, List.cons.injEq, Val.int.injEq, wipeE, lock_none, unlock_none, if_T, if_F, Bool.false_eq_true, c_ltI, c_leI, k_sl, k_part, k_pnone, MP.sl_str, tr_bl, k_par2C, g_tp2, tm_join, tm_append, tm_clearL, tm_clearD, tm_extend, tm_pop, tm_get, tm_split, tm_partition, Option.some.injEq, exists_eq_left', exists_eq_left]
  refine make_tab h4 (Nat.lt_of_lt_of_le hp1 l2.len) (.dct (w1.lx l2).at) (.dct w2.at) (gR.less.add gR'.less (by omega)) (gC.less.add gC'.less (by omega)) (addL_pos _ _ (lessL_pos pR) (lessL_pos pR')) fun h' t l' => ?_
  exact ⟨t, (l1.trans l2).trans l'⟩
end MP
end

section
/-! MP, part QQ: lists of texts compared; pairs drawn; slices. -/
set_option autoImplicit false
set_option linter.all false
set_option maxRecDepth 10000
namespace MP
open PySem L2
theorem allO_map {α β : Type} (f : α → β) : ∀ l : List α, allO (l.map fun x => some (f x)) = some (l.map f)
  | [] => rfl
  | x :: l => by rw [List.map_cons, allO, allO_map f l]; rfl
theorem toD_strs {h : Heap} {a : Nat} {xs : List Str} (e : rd h a = some (.lst (xs.map Val.str))) : toD h 9 (.ref a) = some (.list (xs.map PyData.str)) := by
  unfold toD
  simp only [e]
  rw [List.map_map, show (toD h 8 ∘ Val.str) = fun x => some (PyData.str x) from funext fun x => rfl, allO_map]
  rfl
theorem nm_strOk {x : Str} (h : IsNm x) : PyData.strOk x = true := by
  unfold PyData.strOk
  rw [Array.all_eq_true']
  intro c hc
  have := h.2.2 c (by simpa using hc)
  unfold Lw at this
  simp only [decide_eq_true_eq]
  omega
theorem shaped_strs {xs : List Str} (h : ∀ x ∈ xs, PyData.strOk x = true) : SeqAt.shaped (.list (xs.map PyData.str)) = true := by
  unfold SeqAt.shaped
  rw [Bool.and_eq_true, decide_eq_true_eq]
  constructor
  · show PyData.canLayAll0 _ = true
    induction xs with
    | nil => rfl
    | cons x xs ih =>
      rw [List.map_cons, PyData.canLayAll0, Bool.and_eq_true]
      exact ⟨h x List.mem_cons_self, ih fun y hy => h y (List.mem_cons_of_mem _ hy)⟩
  · have : ∀ xs : List Str, PyData.depthAll (xs.map PyData.str) = 0 := fun xs => by
      induction xs with
      | nil => rfl
      | cons x xs ih => rw [List.map_cons, PyData.depthAll, ih]; rfl
    rw [PyData.depth, this]; decide
theorem eqv_strs : ∀ xs ys : List Str, PyData.eqvAll (xs.map PyData.str) (ys.map PyData.str) = decide (xs = ys)
  | [], [] => by rw [decide_eq_true rfl]; rfl
  | [], _ :: _ => by rw [decide_eq_false (by simp)]; rfl
  | _ :: _, [] => by rw [decide_eq_false (by simp)]; rfl
  | x :: xs, y :: ys => by
    rw [List.map_cons, List.map_cons, PyData.eqvAll, eqv_strs xs ys, PyData.eqv, Bool.eq_iff_iff, Bool.and_eq_true, beq_iff_eq, decide_eq_true_eq, decide_eq_true_eq, List.cons.injEq]
theorem eqV_strs {h : Heap} {a b : Nat} {xs ys : List Str} (A : rd h a = some (.lst (xs.map Val.str))) (B : rd h b = some (.lst (ys.map Val.str))) (h1 : ∀ x ∈ xs, PyData.strOk x = true) (h2 : ∀ x ∈ ys, PyData.strOk x = true) : eqV (.ref a) (.ref b) h = some (decide (xs = ys)) := by
  unfold eqV dctOf
  simp only [A, B]
  unfold eqVal
  rw [show (flat (.ref a) && flat (.ref b)) = false from rfl, if_neg Bool.false_ne_true, toD_strs A, toD_strs B]
  dsimp only
  rw [if_pos (by rw [shaped_strs h1, shaped_strs h2]; rfl), PyData.eqv, eqv_strs]
theorem ne_strs {tb : Tb} {cf : Cf} {h : Heap} {a b : Nat} {xs ys : List Str} (A : rd h a = some (.lst (xs.map Val.str))) (B : rd h b = some (.lst (ys.map Val.str))) (h1 : ∀ x ∈ xs, PyData.strOk x = true) (h2 : ∀ x ∈ ys, PyData.strOk x = true) : cmpF tb cf .NotEq (.ref a) (.ref b) h = .ok (.bl (!decide (xs = ys))) h := by
  show eqOp _ _ true (.ref a) (.ref b) h = _
  unfold eqOp
  have hi : insOf (.ref a) h = none := by unfold insOf; simp only [A]
  rw [hi]
  dsimp only
  rw [eqV_strs A B h1 h2]
  cases decide (xs = ys) <;> rfl
theorem all2_pairs {P : Int → Prop} {os : List (Option Val)} : ∀ {ks : List Str}, All2 (fun v o => ∃ x z, v = Val.str x ∧ o = some (Val.tup [.str x, .int z]) ∧ P z) (ks.map Val.str) os → ∃ l : List (Str × Int), os.filterMap id = (l.map fun p => Val.tup [.str p.1, .int p.2]) ∧ l.map (·.1) = ks ∧ ∀ p ∈ l, P p.2 := by
  induction os with
  | nil =>
    intro ks h
    cases ks with
    | nil => exact ⟨[], rfl, rfl, fun _ h => absurd h List.not_mem_nil⟩
    | cons => cases h
  | cons o os ih =>
    intro ks h
    cases ks with
    | nil => cases h
    | cons k ks =>
      cases h with
      | cons h1 h2 =>
        obtain ⟨x, z, e, rfl, hz⟩ := h1
        cases e
        obtain ⟨l, e1, e2, e3⟩ := ih h2
        refine ⟨(k, z) :: l, by simp [e1], by simp [e2], fun p hp => ?_⟩
        rcases List.mem_cons.mp hp with rfl | hp
        · exact hz
        · exact e3 p hp
theorem cut_hi {α : Type} (xs : List α) (k : Nat) : cut xs none (some (k : Int)) = xs.take k := by
  unfold cut
  rw [HT.sIx_none, HT.sIx_nat]
  simp only [List.drop_zero, Nat.sub_zero]
  rcases Nat.le_total k xs.length with h | h
  · rw [Nat.min_eq_left h]
  · rw [Nat.min_eq_right h, List.take_of_length_le (Nat.le_refl _), List.take_of_length_le h]
theorem cut_lo {α : Type} (xs : List α) (k : Nat) : cut xs (some (k : Int)) none = xs.drop k := by
  unfold cut
  rw [HT.sIx_none, HT.sIx_nat]
  rcases Nat.le_total k xs.length with h | h
  · rw [Nat.min_eq_left h, List.take_of_length_le (by simp)]
  · rw [Nat.min_eq_right h, List.drop_of_length_le (Nat.le_refl _), List.drop_of_length_le h]; simp
theorem sl_lst {h : Heap} {a : Nat} {xs : List Val} {lo hi : Option Int} (e : rd h a = some (.lst xs)) : slV (.ref a) lo hi h = al h (.lst (cut xs lo hi)) := by
  unfold slV
  simp only [e]
theorem cut_hi4 {α : Type} (xs : List α) : cut xs none (some 4) = xs.take 4 := cut_hi xs 4
theorem cut_lo3 {α : Type} (xs : List α) : cut xs (some 3) none = xs.drop 3 := cut_lo xs 3
theorem lc_relK {f : Val → Heap → Rs (Option Val)} (R : Val → Option Val → Prop) (k : Int) (hk : 0 ≤ k) (xs acc : List Val) (h : Heap) (n : Int) (s : Sr h 0 n)
    (st : ∀ v ∈ xs, ∀ h1 m, Le h h1 → Sr h1 0 m → n ≤ m → m + k ≤ n + k * xs.length → ∀ K : Option Val → Heap → Prop, (∀ o h2, R v o → Le h1 h2 → Sr h2 0 (m + k) → K o h2) → Ok (f v h1) K) :
    Ok (lcGo f xs acc h) fun ys h' => Le h h' ∧ Sr h' 0 (n + k * xs.length) ∧ ∃ os, All2 R xs os ∧ ys = acc ++ os.filterMap id :=
  lc_rel R k hk xs acc h n s fun v hv h1 m a b c d => st v hv h1 m a b c d _ fun o h2 x y z => ⟨x, y, z⟩
theorem lc_funK {f : Val → Heap → Rs (Option Val)} (F : Val → Option Val) (xs acc : List Val) (h : Heap)
    (st : ∀ v ∈ xs, ∀ h1, Lx h h1 → ∀ K : Option Val → Heap → Prop, (∀ h2, Lx h1 h2 → K (F v) h2) → Ok (f v h1) K) : Ok (lcGo f xs acc h) fun ys h' => Lx h h' ∧ ys = acc ++ xs.filterMap F :=
  lc_fun F xs acc h fun v hv h1 a => st v hv h1 a _ fun h2 b => ⟨rfl, b⟩
end MP
end

section
set_option Elab.async false
set_option linter.all false
set_option maxRecDepth 100000
set_option maxHeartbeats 0
namespace MPL
open PySem L2 MP
abbrev P : Program := PySem.Challenge.pw_statementlots_k01_tables_made
def top (i : Nat) : Stmt := P.main.body.getD i (.Pass ⟨0, 0, 0, 0⟩)
def meth (i j : Nat) : Stmt := match top i with
  | .ClassDef _ _ _ body _ _ _ _ _ _ _ => body.getD j (.Pass ⟨0, 0, 0, 0⟩)
  | _ => .Pass ⟨0, 0, 0, 0⟩
def fdOf (st : Stmt) (at_ : Str × Option Str) (name qual : Str) (ps N : List Str) (dfl : List Dfl) : FD := ⟨at_, name, qual, defArgs st, defBody st, defScope st, ps, N, dfl⟩
theorem fa_nil {α : Type} {p : α → Prop} : ∀ f ∈ ([] : List α), p f := fun _ h => absurd h List.not_mem_nil
theorem fa_cons {α : Type} {p : α → Prop} {a : α} {l : List α} (h1 : p a) (h2 : ∀ f ∈ l, p f) : ∀ f ∈ a :: l, p f := fun f h => (List.mem_cons.mp h).elim (fun e => e ▸ h1) (h2 f)
/-- is_name -/
def f0 : FD := fdOf (top 6) ("is_name", none) "is_name" "is_name" ["value"] ["value", "sign"] []
/-- is_integer -/
def f1 : FD := fdOf (top 7) ("is_integer", none) "is_integer" "is_integer" ["value"] ["value"] []
/-- without_noughts -/
def f2 : FD := fdOf (top 9) ("without_noughts", none) "without_noughts" "without_noughts" ["numbers"] ["numbers", "name"] []
/-- added -/
def f3 : FD := fdOf (top 10) ("added", none) "added" "added" ["one", "other"] ["one", "other", "found", "name", "number"] []
/-- Table.__init__ -/
def f4 : FD := fdOf (meth 11 0) ("Table", some "__init__") "__init__" "Table.__init__" ["self", "rows", "counters"] ["self", "rows", "counters", "own_rows", "own_counters", "name", "number"] [.ety]
/-- Table.rows -/
def f5 : FD := fdOf (meth 11 1) ("Table", some "rows") "rows" "Table.rows" ["self", "kind"] ["self", "kind"] []
/-- Table.worth -/
def f6 : FD := fdOf (meth 11 2) ("Table", some "worth") "worth" "Table.worth" ["self", "counter"] ["self", "counter"] []
/-- Table.row_kinds -/
def f7 : FD := fdOf (meth 11 3) ("Table", some "row_kinds") "row_kinds" "Table.row_kinds" ["self"] ["self"] []
/-- Table.counter_names -/
def f8 : FD := fdOf (meth 11 4) ("Table", some "counter_names") "counter_names" "Table.counter_names" ["self"] ["self"] []
/-- Table.size -/
def f9 : FD := fdOf (meth 11 5) ("Table", some "size") "size" "Table.size" ["self"] ["self"] []
/-- Table.__eq__ -/
def f10 : FD := fdOf (meth 11 6) ("Table", some "__eq__") "__eq__" "Table.__eq__" ["self", "other"] ["self", "other"] []
/-- Table.__add__ -/
def f11 : FD := fdOf (meth 11 7) ("Table", some "__add__") "__add__" "Table.__add__" ["self", "other"] ["self", "other"] []
/-- _law_source -/
def f12 : FD := fdOf (top 13) ("_law_source", none) "_law_source" "_law_source" ["_law_script"] ["_law_script", "_law_great", "_law_seed", "_law_cell"] []
/-- _law_draw -/
def f13 : FD := fdOf (top 14) ("_law_draw", none) "_law_draw" "_law_draw" ["_law_source_here", "_law_many"] ["_law_source_here", "_law_many", "_law_digit", "_law_mixed"] []
/-- _law_name -/
def f14 : FD := fdOf (top 15) ("_law_name", none) "_law_name" "_law_name" ["_law_source_here", "_law_taken"] ["_law_source_here", "_law_taken", "_law_size", "_law_name_here", "_law_k", "_law_one", "_law_sign"] []
/-- _law_names -/
def f15 : FD := fdOf (top 16) ("_law_names", none) "_law_names" "_law_names" ["_law_source_here", "_law_many"] ["_law_source_here", "_law_many", "_law_names_here", "_law_k"] []
/-- _law_big -/
def f16 : FD := fdOf (top 17) ("_law_big", none) "_law_big" "_law_big" ["_law_source_here"] ["_law_source_here"] []
/-- _law_lists -/
def f17 : FD := fdOf (top 18) ("_law_lists", none) "_law_lists" "_law_lists" ["_law_source_here", "_law_names_here"] ["_law_source_here", "_law_names_here", "_law_numbers", "_law_name_here"] []
/-- _law_less -/
def f18 : FD := fdOf (top 19) ("_law_less", none) "_law_less" "_law_less" ["_law_numbers"] ["_law_numbers", "_law_name_here"] []
/-- _law_is_right -/
def f19 : FD := fdOf (top 20) ("_law_is_right", none) "_law_is_right" "_law_is_right" ["_law_table", "_law_numbers", "_law_worths"] ["_law_table", "_law_numbers", "_law_worths", "_law_name_here", "_law_odd"] []
/-- law -/
def f20 : FD := fdOf (top 21) ("law", none) "law" "law" ["_law_script"] ["_law_script", "_law_source_here", "_law_names_here", "_law_numbers", "_law_worths", "_law_handed", "_law_told", "_law_table", "_law_more", "_law_rest", "_law_name_here", "_law_other", "_law_same", "_law_both", "_law_ends"] []
def D : Dt where
  fns := [f0, f1, f2, f3, f4, f5, f6, f7, f8, f9, f10, f11, f12, f13, f14, f15, f16, f17, f18, f19, f20]
  cls := ["Table"]
  gns := [("is_name", .fn 0), ("is_integer", .fn 1), ("without_noughts", .fn 2), ("added", .fn 3), ("_law_source", .fn 12), ("_law_draw", .fn 13), ("_law_name", .fn 14), ("_law_names", .fn 15), ("_law_big", .fn 16), ("_law_lists", .fn 17), ("_law_less", .fn 18), ("_law_is_right", .fn 19), ("law", .fn 20), ("Table", .cls 0), ("LETTERS", .con (.str "abcdefghijklmnopqrstuvwxyz")), ("MOST_SIGNS", .con (.int 8)), ("len", .blt), ("int", .blt), ("str", .blt), ("list", .blt), ("dict", .blt), ("bool", .blt), ("sorted", .blt), ("sum", .blt), ("all", .blt), ("any", .blt), ("isinstance", .blt), ("range", .blt)]
  inis := [(0, 4)]
  cms := [((0, "rows"), 5), ((0, "worth"), 6), ((0, "row_kinds"), 7), ((0, "counter_names"), 8), ((0, "size"), 9)]
  oes := [(0, 10)]
  obs := [((.Add, 0), 11)]
  nas := [(0, "own_rows"), (0, "own_counters")]
  tts := [((.b "NoneType", .b "str"), false), ((.b "NoneType", .b "int"), false), ((.b "NoneType", .b "bool"), false), ((.b "NoneType", .b "list"), false), ((.b "NoneType", .b "tuple"), false), ((.b "NoneType", .b "dict"), false), ((.b "NoneType", .c 0), false), ((.b "bool", .b "str"), false), ((.b "bool", .b "int"), true), ((.b "bool", .b "bool"), true), ((.b "bool", .b "list"), false), ((.b "bool", .b "tuple"), false), ((.b "bool", .b "dict"), false), ((.b "bool", .c 0), false), ((.b "int", .b "str"), false), ((.b "int", .b "int"), true), ((.b "int", .b "bool"), false), ((.b "int", .b "list"), false), ((.b "int", .b "tuple"), false), ((.b "int", .b "dict"), false), ((.b "int", .c 0), false), ((.b "str", .b "str"), true), ((.b "str", .b "int"), false), ((.b "str", .b "bool"), false), ((.b "str", .b "list"), false), ((.b "str", .b "tuple"), false), ((.b "str", .b "dict"), false), ((.b "str", .c 0), false), ((.b "list", .b "str"), false), ((.b "list", .b "int"), false), ((.b "list", .b "bool"), false), ((.b "list", .b "list"), true), ((.b "list", .b "tuple"), false), ((.b "list", .b "dict"), false), ((.b "list", .c 0), false), ((.b "dict", .b "str"), false), ((.b "dict", .b "int"), false), ((.b "dict", .b "bool"), false), ((.b "dict", .b "list"), false), ((.b "dict", .b "tuple"), false), ((.b "dict", .b "dict"), true), ((.b "dict", .c 0), false), ((.b "tuple", .b "str"), false), ((.b "tuple", .b "int"), false), ((.b "tuple", .b "bool"), false), ((.b "tuple", .b "list"), false), ((.b "tuple", .b "tuple"), true), ((.b "tuple", .b "dict"), false), ((.b "tuple", .c 0), false), ((.c 0, .b "str"), false), ((.c 0, .b "int"), false), ((.c 0, .b "bool"), false), ((.c 0, .b "list"), false), ((.c 0, .b "tuple"), false), ((.c 0, .b "dict"), false), ((.c 0, .c 0), true)]
  nfs := [(0, .b "NoneType"), (0, .b "bool"), (0, .b "int"), (0, .b "str"), (0, .b "list"), (0, .b "dict"), (0, .b "tuple"), (0, .c 0)]
theorem scs : ∀ f ∈ D.fns, f.scB = true := fun f hf => allP (show D.fns.all FD.scB = true by decide +kernel) hf
theorem lens : ∀ f ∈ D.fns, f.dfl.length ≤ f.ps.length := (fa_cons (by decide) (fa_cons (by decide) (fa_cons (by decide) (fa_cons (by decide) (fa_cons (by decide) (fa_cons (by decide) (fa_cons (by decide) (fa_cons (by decide) (fa_cons (by decide) (fa_cons (by decide) (fa_cons (by decide) (fa_cons (by decide) (fa_cons (by decide) (fa_cons (by decide) (fa_cons (by decide) (fa_cons (by decide) (fa_cons (by decide) (fa_cons (by decide) (fa_cons (by decide) (fa_cons (by decide) (fa_cons (by decide) fa_nil)))))))))))))))))))))
theorem b0 : f0.Bnd := fun _ _ _ _ _ _ us hl => match us, hl with | [_], _ => rfl
theorem b1 : f1.Bnd := fun _ _ _ _ _ _ us hl => match us, hl with | [_], _ => rfl
theorem b2 : f2.Bnd := fun _ _ _ _ _ _ us hl => match us, hl with | [_], _ => rfl
theorem b3 : f3.Bnd := fun _ _ _ _ _ _ us hl => match us, hl with | [_, _], _ => rfl
theorem b4 : f4.Bnd := fun n j (hj : j ≤ 1) (hn : n + (1 - j) = 3) T kV doc pm an cdv ct us its h1 (h2 : its.length = 1) => by
  have hc : j = 0 ∨ j = 1 := by omega
  rcases hc with rfl | rfl
  · obtain rfl : n = 2 := by omega
    match us, its, h1, h2 with | [_, _], [_], _, _ => exact ⟨_, rfl, rfl⟩
  · obtain rfl : n = 3 := by omega
    match us, its, h1, h2 with | [_, _, _], [_], _, _ => exact ⟨_, rfl, rfl⟩
theorem b5 : f5.Bnd := fun _ _ _ _ _ _ us hl => match us, hl with | [_, _], _ => rfl
theorem b6 : f6.Bnd := fun _ _ _ _ _ _ us hl => match us, hl with | [_, _], _ => rfl
theorem b7 : f7.Bnd := fun _ _ _ _ _ _ us hl => match us, hl with | [_], _ => rfl
theorem b8 : f8.Bnd := fun _ _ _ _ _ _ us hl => match us, hl with | [_], _ => rfl
theorem b9 : f9.Bnd := fun _ _ _ _ _ _ us hl => match us, hl with | [_], _ => rfl
theorem b10 : f10.Bnd := fun _ _ _ _ _ _ us hl => match us, hl with | [_, _], _ => rfl
theorem b11 : f11.Bnd := fun _ _ _ _ _ _ us hl => match us, hl with | [_, _], _ => rfl
theorem b12 : f12.Bnd := fun _ _ _ _ _ _ us hl => match us, hl with | [_], _ => rfl
theorem b13 : f13.Bnd := fun _ _ _ _ _ _ us hl => match us, hl with | [_, _], _ => rfl
theorem b14 : f14.Bnd := fun _ _ _ _ _ _ us hl => match us, hl with | [_, _], _ => rfl
theorem b15 : f15.Bnd := fun _ _ _ _ _ _ us hl => match us, hl with | [_, _], _ => rfl
theorem b16 : f16.Bnd := fun _ _ _ _ _ _ us hl => match us, hl with | [_], _ => rfl
theorem b17 : f17.Bnd := fun _ _ _ _ _ _ us hl => match us, hl with | [_, _], _ => rfl
theorem b18 : f18.Bnd := fun _ _ _ _ _ _ us hl => match us, hl with | [_], _ => rfl
theorem b19 : f19.Bnd := fun _ _ _ _ _ _ us hl => match us, hl with | [_, _, _], _ => rfl
theorem b20 : f20.Bnd := fun _ _ _ _ _ _ us hl => match us, hl with | [_], _ => rfl
theorem bnds : ∀ f ∈ D.fns, f.Bnd := (fa_cons b0 (fa_cons b1 (fa_cons b2 (fa_cons b3 (fa_cons b4 (fa_cons b5 (fa_cons b6 (fa_cons b7 (fa_cons b8 (fa_cons b9 (fa_cons b10 (fa_cons b11 (fa_cons b12 (fa_cons b13 (fa_cons b14 (fa_cons b15 (fa_cons b16 (fa_cons b17 (fa_cons b18 (fa_cons b19 (fa_cons b20 fa_nil)))))))))))))))))))))
abbrev R : PySem.W.OpenRow := PySem.W.OpenLaw.row PySem.Challenge.rw_statementlots_k01_tables_made
def names : List PySem.Str := (["__name__", "LotError", "BadTable", "LETTERS", "MOST_SIGNS", "is_name", "is_integer", "without_noughts", "added", "Table", "_law_source", "_law_draw", "_law_name", "_law_names", "_law_big", "_law_lists", "_law_less", "_law_is_right"] : List PySem.Str)
theorem run (w : World) : HandSHeadRun.RunEq R (PySem.W.view R.prog [21]) (D.hook 6) (D.ob 6) 4000 names w := by
  intro os
  kernel_rfl
end MPL
end

section
set_option Elab.async false
set_option linter.all false
set_option maxRecDepth 100000
set_option maxHeartbeats 0
namespace MPL
open PySem L2 MP
/-- is_name: 0=value 1=sign -/
def s0 (cf : Cf) (wf : Nat) : Fs :=
  sSeq (sRet (eAnd (xBf (eCons (xVar 0) (eCons (xLit (.ty "str")) (aNil))) (isiV D.tb.tt)) (eAnd (eChain (cop .le) (cop .le) (xLit (.int 1)) (xBf (eCons (xVar 0) (aNil)) (MP.f1 lenV)) (xLit (.int 8))) (xBf (eCons (eLc (iVal (xVar 0)) (gNm 1) (tTrue) (xBin (cmpF D.tb cf .In) (xVar 1) (xLit (.str "abcdefghijklmnopqrstuvwxyz"))) [1]) (aNil)) (MP.f1 allV))))) (sNx)
theorem s0_eq (cf : Cf) (wf : Nat) : (ev D.tb cf f0.N wf 60).Ss f0.scope f0.body = s0 cf wf := by kernel_rfl
/-- is_integer: 0=value -/
def s1 (cf : Cf) (wf : Nat) : Fs :=
  sSeq (sRet (eAnd (xBf (eCons (xVar 0) (eCons (xLit (.ty "int")) (aNil))) (isiV D.tb.tt)) (eNot (xBf (eCons (xVar 0) (eCons (xLit (.ty "bool")) (aNil))) (isiV D.tb.tt))))) (sNx)
theorem s1_eq (cf : Cf) (wf : Nat) : (ev D.tb cf f1.N wf 60).Ss f1.scope f1.body = s1 cf wf := by kernel_rfl
/-- without_noughts: 0=numbers 1=name -/
def s2 (cf : Cf) (wf : Nat) : Fs :=
  sSeq (sRet (eDc (iVal (xBf (eCons (xVar 0) (aNil)) (MP.f1 sortedV))) (gNm 1) (tCmp (cmpF D.tb cf .NotEq) (xBin ixV (xVar 0) (xVar 1)) (xLit (.int 0))) (xVar 1) (xBin ixV (xVar 0) (xVar 1)) [1])) (sNx)
theorem s2_eq (cf : Cf) (wf : Nat) : (ev D.tb cf f2.N wf 60).Ss f2.scope f2.body = s2 cf wf := by kernel_rfl
/-- added: 0=one 1=other 2=found 3=name 4=number -/
def s3 (cf : Cf) (wf : Nat) : Fs :=
  sSeq (sAsg (xBf (eCons (xVar 0) (aNil)) (MP.f1 dictV)) (gNm 2)) (sSeq (sFor (iItems (xVar 1)) (gTp 2 (gsCons (gNm 3) (gsCons (gNm 4) (gsNil)))) (sSeq (sSubF (xVar 2) (xVar 3) (xBin (ownBin (obF D.tb cf .Add) (bop .add)) (eBm (bmT "get") (xVar 2) (eCons (xVar 3) (eCons (xLit (.int 0)) (aNil)))) (xVar 4))) (sNx))) (sSeq (sRet (xVar 2)) (sNx)))
theorem s3_eq (cf : Cf) (wf : Nat) : (ev D.tb cf f3.N wf 60).Ss f3.scope f3.body = s3 cf wf := by kernel_rfl
/-- Table.__init__: 0=self 1=rows 2=counters 3=own_rows 4=own_counters 5=name 6=number -/
def s4 (cf : Cf) (wf : Nat) : Fs :=
  sSeq (sPar2 3 4 (eCons (xBf (eCons (xVar 1) (aNil)) (MP.f1 dictV)) (eCons (xBf (eCons (xVar 2) (aNil)) (MP.f1 dictV)) (aNil)))) (sSeq (sFor (iItems (xVar 3)) (gTp 2 (gsCons (gNm 5) (gsCons (gNm 6) (gsNil)))) (sSeq (sIf (tOrF (tNotF (eTru (eCall 1 (cf 0) [] (eCons (xVar 5) (aNil))))) (tOrF (tNotF (eTru (eCall 1 (cf 1) [] (eCons (xVar 6) (aNil))))) (tCmp (cmpF D.tb cf .Lt) (xVar 6) (xLit (.int 0))))) (sSeq (sBad) (sNx)) (sNx)) (sNx))) (sSeq (sFor (iItems (xVar 4)) (gTp 2 (gsCons (gNm 5) (gsCons (gNm 6) (gsNil)))) (sSeq (sIf (tOrF (tNotF (eTru (eCall 1 (cf 0) [] (eCons (xVar 5) (aNil))))) (tNotF (eTru (eCall 1 (cf 1) [] (eCons (xVar 6) (aNil)))))) (sSeq (sBad) (sNx)) (sNx)) (sNx))) (sSeq (sFldF (fun c => D.tb.na c "own_rows") "own_rows" (xVar 0) (eCall 1 (cf 2) [] (eCons (xVar 3) (aNil)))) (sSeq (sFldF (fun c => D.tb.na c "own_counters") "own_counters" (xVar 0) (eCall 1 (cf 2) [] (eCons (xVar 4) (aNil)))) (sNx)))))
theorem s4_eq (cf : Cf) (wf : Nat) : (ev D.tb cf f4.N wf 60).Ss f4.scope f4.body = s4 cf wf := by kernel_rfl
/-- Table.rows: 0=self 1=kind -/
def s5 (cf : Cf) (wf : Nat) : Fs :=
  sSeq (sRet (eIf (tAndF (eTru (xBf (eCons (xVar 1) (eCons (xLit (.ty "str")) (aNil))) (isiV D.tb.tt))) (tCmp (cmpF D.tb cf .In) (xVar 1) (eFld (fun c => D.tb.na c "own_rows") "own_rows" (xVar 0)))) (xBin ixV (eFld (fun c => D.tb.na c "own_rows") "own_rows" (xVar 0)) (xVar 1)) (xLit (.int 0)))) (sNx)
theorem s5_eq (cf : Cf) (wf : Nat) : (ev D.tb cf f5.N wf 60).Ss f5.scope f5.body = s5 cf wf := by kernel_rfl
/-- Table.worth: 0=self 1=counter -/
def s6 (cf : Cf) (wf : Nat) : Fs :=
  sSeq (sRet (eIf (tAndF (eTru (xBf (eCons (xVar 1) (eCons (xLit (.ty "str")) (aNil))) (isiV D.tb.tt))) (tCmp (cmpF D.tb cf .In) (xVar 1) (eFld (fun c => D.tb.na c "own_counters") "own_counters" (xVar 0)))) (xBin ixV (eFld (fun c => D.tb.na c "own_counters") "own_counters" (xVar 0)) (xVar 1)) (xLit (.int 0)))) (sNx)
theorem s6_eq (cf : Cf) (wf : Nat) : (ev D.tb cf f6.N wf 60).Ss f6.scope f6.body = s6 cf wf := by kernel_rfl
/-- Table.row_kinds: 0=self -/
def s7 (cf : Cf) (wf : Nat) : Fs :=
  sSeq (sRet (xBf (eCons (eFld (fun c => D.tb.na c "own_rows") "own_rows" (xVar 0)) (aNil)) (MP.f1 listV))) (sNx)
theorem s7_eq (cf : Cf) (wf : Nat) : (ev D.tb cf f7.N wf 60).Ss f7.scope f7.body = s7 cf wf := by kernel_rfl
/-- Table.counter_names: 0=self -/
def s8 (cf : Cf) (wf : Nat) : Fs :=
  sSeq (sRet (xBf (eCons (eFld (fun c => D.tb.na c "own_counters") "own_counters" (xVar 0)) (aNil)) (MP.f1 listV))) (sNx)
theorem s8_eq (cf : Cf) (wf : Nat) : (ev D.tb cf f8.N wf 60).Ss f8.scope f8.body = s8 cf wf := by kernel_rfl
/-- Table.size: 0=self -/
def s9 (cf : Cf) (wf : Nat) : Fs :=
  sSeq (sRet (xBf (eCons (xThen (eFld (fun c => D.tb.na c "own_rows") "own_rows" (xVar 0)) listValsV) (aNil)) (MP.f1 sumV))) (sNx)
theorem s9_eq (cf : Cf) (wf : Nat) : (ev D.tb cf f9.N wf 60).Ss f9.scope f9.body = s9 cf wf := by kernel_rfl
/-- Table.__eq__: 0=self 1=other -/
def s10 (cf : Cf) (wf : Nat) : Fs :=
  sSeq (sIf (tNotF (eTru (xBf (eCons (xVar 1) (eCons (xLit (.cls 0)) (aNil))) (isiV D.tb.tt)))) (sSeq (sRet (xLit (.bl false))) (sNx)) (sNx)) (sSeq (sRet (eAnd (xBin (cmpF D.tb cf .Eq) (eFld (fun c => D.tb.na c "own_rows") "own_rows" (xVar 0)) (eFld (fun c => D.tb.na c "own_rows") "own_rows" (xVar 1))) (xBin (cmpF D.tb cf .Eq) (eFld (fun c => D.tb.na c "own_counters") "own_counters" (xVar 0)) (eFld (fun c => D.tb.na c "own_counters") "own_counters" (xVar 1))))) (sNx))
theorem s10_eq (cf : Cf) (wf : Nat) : (ev D.tb cf f10.N wf 60).Ss f10.scope f10.body = s10 cf wf := by kernel_rfl
/-- Table.__add__: 0=self 1=other -/
def s11 (cf : Cf) (wf : Nat) : Fs :=
  sSeq (sRet (eMake 0 3 (cf 4) [] (eCons (eCall 2 (cf 3) [] (eCons (eFld (fun c => D.tb.na c "own_rows") "own_rows" (xVar 0)) (eCons (eFld (fun c => D.tb.na c "own_rows") "own_rows" (xVar 1)) (aNil)))) (eCons (eCall 2 (cf 3) [] (eCons (eFld (fun c => D.tb.na c "own_counters") "own_counters" (xVar 0)) (eCons (eFld (fun c => D.tb.na c "own_counters") "own_counters" (xVar 1)) (aNil)))) (aNil))))) (sNx)
theorem s11_eq (cf : Cf) (wf : Nat) : (ev D.tb cf f11.N wf 60).Ss f11.scope f11.body = s11 cf wf := by kernel_rfl
/-- _law_source: 0=_law_script 1=_law_great 2=_law_seed 3=_law_cell -/
def s12 (cf : Cf) (wf : Nat) : Fs :=
  sSeq (sAsg (eTup (eCons (xLit (.int 0)) (eCons (xLit (.int 17)) (aNil)))) (gTp 2 (gsCons (gNm 1) (gsCons (gNm 2) (gsNil))))) (sSeq (sFor (iVal (xVar 0)) (gNm 3) (sSeq (sIf (tAndF (tCmp (cmpF D.tb cf .Eq) (xVar 1) (xLit (.int 0))) (tCmp (cmpF D.tb cf .GtE) (xVar 3) (xBin (bop .pow) (xLit (.int 10)) (xLit (.int 18))))) (sSeq (sAsg (xVar 3) (gNm 1)) (sNx)) (sNx)) (sSeq (sAsg (xBin (bop .mod) (xBf (eCons (xBin (ownBin (obF D.tb cf .Add) (bop .add)) (xBin (ownBin (obF D.tb cf .Add) (bop .add)) (xBin (ownBin (obF D.tb cf .Mult) (bop .mul)) (xVar 2) (xLit (.int 31))) (xVar 3)) (xLit (.int 7))) (aNil)) (MP.f1 intV)) (xLit (.int 2147483647))) (gNm 2)) (sNx)))) (sSeq (sRet (eLst (eCons (xVar 1) (eCons (xVar 2) (eCons (xLit (.int 0)) (aNil)))))) (sNx)))
theorem s12_eq (cf : Cf) (wf : Nat) : (ev D.tb cf f12.N wf 60).Ss f12.scope f12.body = s12 cf wf := by kernel_rfl
/-- _law_draw: 0=_law_source_here 1=_law_many 2=_law_digit 3=_law_mixed -/
def s13 (cf : Cf) (wf : Nat) : Fs :=
  sSeq (sSubF (xVar 0) (xLit (.int 2)) (xBin (ownBin (obF D.tb cf .Add) (bop .add)) (xBin ixV (xVar 0) (xLit (.int 2))) (xLit (.int 1)))) (sSeq (sIf (tCmp (cmpF D.tb cf .Gt) (xBin ixV (xVar 0) (xLit (.int 0))) (xLit (.int 1))) (sSeq (sAsg (xBin (bop .mod) (xBf (eCons (xBin ixV (xVar 0) (xLit (.int 0))) (aNil)) (MP.f1 intV)) (xVar 1)) (gNm 2)) (sSeq (sSubF (xVar 0) (xLit (.int 0)) (xBin (bop .fdiv) (xBin ixV (xVar 0) (xLit (.int 0))) (xVar 1))) (sSeq (sRet (xVar 2)) (sNx)))) (sNx)) (sSeq (sAsg (xBin (bop .mod) (xBin (bop .pow) (xBin (ownBin (obF D.tb cf .Add) (bop .add)) (xBin ixV (xVar 0) (xLit (.int 1))) (xBin (ownBin (obF D.tb cf .Mult) (bop .mul)) (xLit (.int 7919)) (xBin ixV (xVar 0) (xLit (.int 2))))) (xLit (.int 5))) (xLit (.int 2147483629))) (gNm 3)) (sSeq (sRet (xBin (bop .mod) (xBin (bop .mod) (xBin (bop .pow) (xBin (ownBin (obF D.tb cf .Add) (bop .add)) (xBin (ownBin (obF D.tb cf .Add) (bop .add)) (xBin (ownBin (obF D.tb cf .Mult) (bop .mul)) (xVar 3) (xLit (.int 48271))) (xBin (ownBin (obF D.tb cf .Mult) (bop .mul)) (xBin (ownBin (obF D.tb cf .Mult) (bop .mul)) (xLit (.int 16807)) (xBin ixV (xVar 0) (xLit (.int 2)))) (xBin ixV (xVar 0) (xLit (.int 2))))) (xLit (.int 11))) (xLit (.int 3))) (xLit (.int 1000000007))) (xVar 1))) (sNx))))
theorem s13_eq (cf : Cf) (wf : Nat) : (ev D.tb cf f13.N wf 60).Ss f13.scope f13.body = s13 cf wf := by kernel_rfl
/-- _law_name: 0=_law_source_here 1=_law_taken 2=_law_size 3=_law_name_here 4=_law_k 5=_law_one 6=_law_sign -/
def s14 (cf : Cf) (wf : Nat) : Fs :=
  sSeq (sAsg (xBin ixV (eLst (eCons (xLit (.int 8)) (eCons (xLit (.int 4)) (eCons (xLit (.int 5)) (eCons (xLit (.int 6)) (eCons (xLit (.int 7)) (eCons (xLit (.int 1)) (eCons (xLit (.int 2)) (eCons (xLit (.int 3)) (eCons (xLit (.int 1)) (eCons (xLit (.int 2)) (eCons (xLit (.int 3)) (eCons (xLit (.int 1)) (eCons (xLit (.int 2)) (aNil))))))))))))))) (eCall 2 (cf 13) [] (eCons (xVar 0) (eCons (xLit (.int 13)) (aNil))))) (gNm 2)) (sSeq (sAsg (eBm (bmT "join") (xLit (.str "")) (eCons (eLc (iRng1 (eCons (xVar 2) (aNil))) (gNm 4) (tTrue) (xBin ixV (xLit (.str "abcdefghijklmnopqrstuvwxyz")) (eCall 2 (cf 13) [] (eCons (xVar 0) (eCons (xLit (.int 26)) (aNil))))) [4]) (aNil))) (gNm 3)) (sSeq (sIf (tChn (cop .lt) (cop .lt) (xLit (.int 3)) (xVar 2) (xLit (.int 8))) (sSeq (sAsg (xBin ixV (eLst (eCons (xLit (.str "old")) (eCons (xLit (.str "new")) (eCons (xLit (.str "do")) (eCons (xLit (.str "add")) (eCons (xLit (.str "set")) (eCons (xLit (.str "refuse")) (eCons (xBin (ownBin (obF D.tb cf .Add) (bop .add)) (xLit (.str "q")) (eSl (xVar 3) (ePart (xLit (.int 1))) (pNone))) (aNil))))))))) (eCall 2 (cf 13) [] (eCons (xVar 0) (eCons (xLit (.int 7)) (aNil))))) (gNm 3)) (sNx)) (sNx)) (sSeq (sIf (tCmp (cmpF D.tb cf .NotIn) (xVar 3) (xVar 1)) (sSeq (sRet (xVar 3)) (sNx)) (sNx)) (sSeq (sRet (xBin ixV (eLc (iVal (eLc (iVal (xLit (.str "abcdefghijklmnopqrstuvwxyz"))) (gNm 6) (tTrue) (xBin (ownBin (obF D.tb cf .Add) (bop .add)) (xLit (.str "z")) (xVar 6)) [6])) (gNm 5) (tCmp (cmpF D.tb cf .NotIn) (xVar 5) (xVar 1)) (xVar 5) [5]) (xLit (.int 0)))) (sNx)))))
theorem s14_eq (cf : Cf) (wf : Nat) : (ev D.tb cf f14.N wf 60).Ss f14.scope f14.body = s14 cf wf := by kernel_rfl
/-- _law_names: 0=_law_source_here 1=_law_many 2=_law_names_here 3=_law_k -/
def s15 (cf : Cf) (wf : Nat) : Fs :=
  sSeq (sAsg (eLst (aNil)) (gNm 2)) (sSeq (sFor (iRng1 (eCons (xVar 1) (aNil))) (gNm 3) (sSeq (sExpr (eBm (bmT "append") (xVar 2) (eCons (eCall 2 (cf 14) [] (eCons (xVar 0) (eCons (xVar 2) (aNil)))) (aNil)))) (sNx))) (sSeq (sRet (xVar 2)) (sNx)))
theorem s15_eq (cf : Cf) (wf : Nat) : (ev D.tb cf f15.N wf 60).Ss f15.scope f15.body = s15 cf wf := by kernel_rfl
/-- _law_big: 0=_law_source_here -/
def s16 (cf : Cf) (wf : Nat) : Fs :=
  sSeq (sRet (xBin ixV (eLst (eCons (xLit (.int 0)) (eCons (xLit (.int 0)) (eCons (xLit (.int 1)) (eCons (xLit (.int 2)) (eCons (xLit (.int 7)) (eCons (xBin (ownBin (obF D.tb cf .Add) (bop .add)) (xBin (bop .pow) (xLit (.int 10)) (xLit (.int 30))) (eCall 2 (cf 13) [] (eCons (xVar 0) (eCons (xLit (.int 9)) (aNil))))) (aNil)))))))) (eCall 2 (cf 13) [] (eCons (xVar 0) (eCons (xLit (.int 6)) (aNil)))))) (sNx)
theorem s16_eq (cf : Cf) (wf : Nat) : (ev D.tb cf f16.N wf 60).Ss f16.scope f16.body = s16 cf wf := by kernel_rfl
/-- _law_lists: 0=_law_source_here 1=_law_names_here 2=_law_numbers 3=_law_name_here -/
def s17 (cf : Cf) (wf : Nat) : Fs :=
  sSeq (sAsg (xBf (eCons (eLc (iVal (eSl (xVar 1) (pNone) (ePart (xLit (.int 4))))) (gNm 3) (tTrue) (eTup (eCons (xVar 3) (eCons (eCall 1 (cf 16) [] (eCons (xVar 0) (aNil))) (aNil)))) [3]) (aNil)) (MP.f1 dictV)) (gNm 2)) (sSeq (sRet (eTup (eCons (xVar 2) (eCons (xBf (eCons (eLc (iVal (eSl (xVar 1) (ePart (xLit (.int 3))) (pNone))) (gNm 3) (tTrue) (eTup (eCons (xVar 3) (eCons (xBin (ownBin (obF D.tb cf .Sub) (bop .sub)) (eCall 1 (cf 16) [] (eCons (xVar 0) (aNil))) (xBin ixV (eLst (eCons (xLit (.int 0)) (eCons (xLit (.int 5)) (eCons (xBin (bop .pow) (xLit (.int 10)) (xLit (.int 30))) (aNil))))) (eCall 2 (cf 13) [] (eCons (xVar 0) (eCons (xLit (.int 3)) (aNil)))))) (aNil)))) [3]) (aNil)) (MP.f1 dictV)) (aNil))))) (sNx))
theorem s17_eq (cf : Cf) (wf : Nat) : (ev D.tb cf f17.N wf 60).Ss f17.scope f17.body = s17 cf wf := by kernel_rfl
/-- _law_less: 0=_law_numbers 1=_law_name_here -/
def s18 (cf : Cf) (wf : Nat) : Fs :=
  sSeq (sRet (xBf (eCons (eLc (iVal (xBf (eCons (xVar 0) (aNil)) (MP.f1 sortedV))) (gNm 1) (tCmp (cmpF D.tb cf .NotEq) (xBin ixV (xVar 0) (xVar 1)) (xLit (.int 0))) (eTup (eCons (xVar 1) (eCons (xBin ixV (xVar 0) (xVar 1)) (aNil)))) [1]) (aNil)) (MP.f1 dictV))) (sNx)
theorem s18_eq (cf : Cf) (wf : Nat) : (ev D.tb cf f18.N wf 60).Ss f18.scope f18.body = s18 cf wf := by kernel_rfl
/-- _law_is_right: 0=_law_table 1=_law_numbers 2=_law_worths 3=_law_name_here 4=_law_odd -/
def s19 (cf : Cf) (wf : Nat) : Fs :=
  sSeq (sIf (tOrF (tCmp (cmpF D.tb cf .NotEq) (eMeth (cmF D.tb cf "row_kinds" 0) "row_kinds" (xVar 0) (aNil)) (xBf (eCons (eCall 1 (cf 18) [] (eCons (xVar 1) (aNil))) (aNil)) (MP.f1 listV))) (tCmp (cmpF D.tb cf .NotEq) (eMeth (cmF D.tb cf "counter_names" 0) "counter_names" (xVar 0) (aNil)) (xBf (eCons (eCall 1 (cf 18) [] (eCons (xVar 2) (aNil))) (aNil)) (MP.f1 listV)))) (sSeq (sRet (xLit (.bl false))) (sNx)) (sNx)) (sSeq (sIf (eTru (xBf (eCons (eLc (iVal (xVar 1)) (gNm 3) (tTrue) (xBin (cmpF D.tb cf .NotEq) (eMeth (cmF D.tb cf "rows" 1) "rows" (xVar 0) (eCons (xVar 3) (aNil))) (xBin ixV (xVar 1) (xVar 3))) [3]) (aNil)) (MP.f1 anyV))) (sSeq (sRet (xLit (.bl false))) (sNx)) (sNx)) (sSeq (sIf (eTru (xBf (eCons (eLc (iVal (xVar 2)) (gNm 3) (tTrue) (xBin (cmpF D.tb cf .NotEq) (eMeth (cmF D.tb cf "worth" 1) "worth" (xVar 0) (eCons (xVar 3) (aNil))) (xBin ixV (xVar 2) (xVar 3))) [3]) (aNil)) (MP.f1 anyV))) (sSeq (sRet (xLit (.bl false))) (sNx)) (sNx)) (sSeq (sFor (iVal (eLst (eCons (xLit (.str "nobody")) (eCons (xLit .non) (eCons (xLit (.int 5)) (eCons (eTup (eCons (xLit (.str "a")) (aNil))) (eCons (eLst (eCons (xLit (.str "a")) (aNil))) (eCons (xNew (.dct [])) (aNil))))))))) (gNm 4) (sSeq (sIf (tOrF (tCmp (cmpF D.tb cf .NotEq) (eMeth (cmF D.tb cf "rows" 1) "rows" (xVar 0) (eCons (xVar 4) (aNil))) (xLit (.int 0))) (tCmp (cmpF D.tb cf .NotEq) (eMeth (cmF D.tb cf "worth" 1) "worth" (xVar 0) (eCons (xVar 4) (aNil))) (xLit (.int 0)))) (sSeq (sRet (xLit (.bl false))) (sNx)) (sNx)) (sNx))) (sSeq (sRet (xBin (cmpF D.tb cf .Eq) (eMeth (cmF D.tb cf "size" 0) "size" (xVar 0) (aNil)) (xBf (eCons (eLc (iVal (xVar 1)) (gNm 3) (tTrue) (xBin ixV (xVar 1) (xVar 3)) [3]) (aNil)) (MP.f1 sumV)))) (sNx)))))
theorem s19_eq (cf : Cf) (wf : Nat) : (ev D.tb cf f19.N wf 60).Ss f19.scope f19.body = s19 cf wf := by kernel_rfl
/-- law: 0=_law_script 1=_law_source_here 2=_law_names_here 3=_law_numbers 4=_law_worths 5=_law_handed 6=_law_told 7=_law_table 8=_law_more 9=_law_rest 10=_law_name_here 11=_law_other 12=_law_same 13=_law_both 14=_law_ends -/
def s20 (cf : Cf) (wf : Nat) : Fs :=
  sSeq (sAsg (eCall 1 (cf 12) [] (eCons (xVar 0) (aNil))) (gNm 1)) (sSeq (sAsg (eCall 2 (cf 15) [] (eCons (xVar 1) (eCons (xLit (.int 6)) (aNil)))) (gNm 2)) (sSeq (sAsg (eCall 2 (cf 17) [] (eCons (xVar 1) (eCons (xVar 2) (aNil)))) (gTp 2 (gsCons (gNm 3) (gsCons (gNm 4) (gsNil))))) (sSeq (sPar2 5 6 (eCons (xBf (eCons (xVar 3) (aNil)) (MP.f1 dictV)) (eCons (xBf (eCons (xVar 4) (aNil)) (MP.f1 dictV)) (aNil)))) (sSeq (sAsg (eIf (tOrF (tCmp (cmpF D.tb cf .NotEq) (xVar 4) (xNew (.dct []))) (tCmp (cmpF D.tb cf .Eq) (eCall 2 (cf 13) [] (eCons (xVar 1) (eCons (xLit (.int 2)) (aNil)))) (xLit (.int 0)))) (eMake 0 3 (cf 4) [] (eCons (xVar 5) (eCons (xVar 6) (aNil)))) (eMake 0 3 (cf 4) [.tup []] (eCons (xVar 5) (aNil)))) (gNm 7)) (sSeq (sExpr (eBm (bmT "clear") (xVar 5) (aNil))) (sSeq (sSubF (xVar 6) (xLit (.str "late")) (xLit (.int 5))) (sSeq (sIf (tNotF (eTru (eCall 3 (cf 19) [] (eCons (xVar 7) (eCons (xVar 3) (eCons (xVar 4) (aNil))))))) (sSeq (sRet (xLit (.bl false))) (sNx)) (sNx)) (sSeq (sExpr (eBm (bmT "append") (eMeth (cmF D.tb cf "row_kinds" 0) "row_kinds" (xVar 7) (aNil)) (eCons (xLit (.str "late")) (aNil)))) (sSeq (sExpr (eBm (bmT "clear") (eMeth (cmF D.tb cf "counter_names" 0) "counter_names" (xVar 7) (aNil)) (aNil))) (sSeq (sAsg (eCall 2 (cf 17) [] (eCons (xVar 1) (eCons (xVar 2) (aNil)))) (gTp 2 (gsCons (gNm 8) (gsCons (gNm 9) (gsNil))))) (sSeq (sIf (tCmp (cmpF D.tb cf .Eq) (eCall 2 (cf 13) [] (eCons (xVar 1) (eCons (xLit (.int 2)) (aNil)))) (xLit (.int 0))) (sSeq (sAsg (eTup (eCons (eCall 1 (cf 18) [] (eCons (xVar 3) (aNil))) (eCons (xBf (eCons (eLc (iVal (eRev (xBf (eCons (xVar 4) (aNil)) (MP.f1 sortedV)))) (gNm 10) (tTrue) (eTup (eCons (xVar 10) (eCons (xBin ixV (xVar 4) (xVar 10)) (aNil)))) [10]) (aNil)) (MP.f1 dictV)) (aNil)))) (gTp 2 (gsCons (gNm 8) (gsCons (gNm 9) (gsNil))))) (sSeq (sIf (tCmp (cmpF D.tb cf .Eq) (eCall 2 (cf 13) [] (eCons (xVar 1) (eCons (xLit (.int 2)) (aNil)))) (xLit (.int 0))) (sSeq (sSubF (xVar 8) (xBin ixV (xVar 2) (xLit (.int 0))) (xBin (ownBin (obF D.tb cf .Add) (bop .add)) (xBin ixV (xVar 3) (xBin ixV (xVar 2) (xLit (.int 0)))) (xLit (.int 1)))) (sNx)) (sNx)) (sNx))) (sNx)) (sSeq (sAsg (eMake 0 3 (cf 4) [] (eCons (xVar 8) (eCons (xVar 9) (aNil)))) (gNm 11)) (sSeq (sAsg (eAnd (xBin (cmpF D.tb cf .Eq) (eCall 1 (cf 18) [] (eCons (xVar 8) (aNil))) (eCall 1 (cf 18) [] (eCons (xVar 3) (aNil)))) (xBin (cmpF D.tb cf .Eq) (eCall 1 (cf 18) [] (eCons (xVar 9) (aNil))) (eCall 1 (cf 18) [] (eCons (xVar 4) (aNil))))) (gNm 12)) (sSeq (sIf (tOrF (tCmp (cmpF D.tb cf .NotEq) (xBin (cmpF D.tb cf .Eq) (xVar 7) (xVar 11)) (xVar 12)) (tOrF (tCmp (cmpF D.tb cf .NotEq) (xBin (cmpF D.tb cf .Eq) (xVar 11) (xVar 7)) (xVar 12)) (tCmp (cmpF D.tb cf .Eq) (xBin (cmpF D.tb cf .NotEq) (xVar 7) (xVar 11)) (xVar 12)))) (sSeq (sRet (xLit (.bl false))) (sNx)) (sNx)) (sSeq (sAsg (xBf (eCons (eLc (iVal (eSl (xVar 2) (pNone) (ePart (xLit (.int 4))))) (gNm 10) (tTrue) (eTup (eCons (xVar 10) (eCons (xBin (ownBin (obF D.tb cf .Add) (bop .add)) (eBm (bmT "get") (xVar 3) (eCons (xVar 10) (eCons (xLit (.int 0)) (aNil)))) (eBm (bmT "get") (xVar 8) (eCons (xVar 10) (eCons (xLit (.int 0)) (aNil))))) (aNil)))) [10]) (aNil)) (MP.f1 dictV)) (gNm 13)) (sSeq (sAsg (xBf (eCons (eLc (iVal (eSl (xVar 2) (ePart (xLit (.int 3))) (pNone))) (gNm 10) (tTrue) (eTup (eCons (xVar 10) (eCons (xBin (ownBin (obF D.tb cf .Add) (bop .add)) (eBm (bmT "get") (xVar 4) (eCons (xVar 10) (eCons (xLit (.int 0)) (aNil)))) (eBm (bmT "get") (xVar 9) (eCons (xVar 10) (eCons (xLit (.int 0)) (aNil))))) (aNil)))) [10]) (aNil)) (MP.f1 dictV)) (gNm 14)) (sSeq (sIf (tOrF (tNotF (eTru (eCall 3 (cf 19) [] (eCons (xBin (ownBin (obF D.tb cf .Add) (bop .add)) (xVar 7) (xVar 11)) (eCons (xVar 13) (eCons (xVar 14) (aNil))))))) (tNotF (eTru (eCall 3 (cf 19) [] (eCons (xVar 7) (eCons (xVar 3) (eCons (xVar 4) (aNil)))))))) (sSeq (sRet (xLit (.bl false))) (sNx)) (sNx)) (sSeq (sIf (tOrF (tCmp (cmpF D.tb cf .NotEq) (eMake 0 3 (cf 4) [] (eCons (xVar 3) (eCons (xLit (.tup [])) (aNil)))) (eMake 0 3 (cf 4) [.tup []] (eCons (xVar 3) (aNil)))) (tCmp (cmpF D.tb cf .NotEq) (eMake 0 3 (cf 4) [] (eCons (xVar 3) (eCons (xNew (.dct [])) (aNil)))) (eMake 0 3 (cf 4) [] (eCons (xVar 3) (eCons (eLst (aNil)) (aNil)))))) (sSeq (sRet (xLit (.bl false))) (sNx)) (sNx)) (sSeq (sRet (eAnd (xBin (cmpF D.tb cf .Eq) (eMake 0 3 (cf 4) [.tup []] (eCons (xNew (.dct [])) (aNil))) (eMake 0 3 (cf 4) [] (eCons (xNew (.dct [])) (eCons (xNew (.dct [])) (aNil))))) (eAnd (xBin (cmpF D.tb cf .Eq) (eMeth (cmF D.tb cf "size" 0) "size" (eMake 0 3 (cf 4) [.tup []] (eCons (xNew (.dct [])) (aNil))) (aNil)) (xLit (.int 0))) (eAnd (xBin (cmpF D.tb cf .NotEq) (xVar 7) (xVar 3)) (eNot (xBin (cmpF D.tb cf .Eq) (xVar 7) (xLit .non))))))) (sNx))))))))))))))))))))
theorem s20_0 (cf : Cf) (wf : Nat) : stepS D.tb f20.N wf (ev D.tb cf f20.N wf 59) f20.scope (f20.body.getD 0 (.Pass ⟨0, 0, 0, 0⟩)) =
  sAsg (eCall 1 (cf 12) [] (eCons (xVar 0) (aNil))) (gNm 1) := by kernel_rfl
theorem s20_1 (cf : Cf) (wf : Nat) : stepS D.tb f20.N wf (ev D.tb cf f20.N wf 59) f20.scope (f20.body.getD 1 (.Pass ⟨0, 0, 0, 0⟩)) =
  sAsg (eCall 2 (cf 15) [] (eCons (xVar 1) (eCons (xLit (.int 6)) (aNil)))) (gNm 2) := by kernel_rfl
theorem s20_2 (cf : Cf) (wf : Nat) : stepS D.tb f20.N wf (ev D.tb cf f20.N wf 59) f20.scope (f20.body.getD 2 (.Pass ⟨0, 0, 0, 0⟩)) =
  sAsg (eCall 2 (cf 17) [] (eCons (xVar 1) (eCons (xVar 2) (aNil)))) (gTp 2 (gsCons (gNm 3) (gsCons (gNm 4) (gsNil)))) := by kernel_rfl
theorem s20_3 (cf : Cf) (wf : Nat) : stepS D.tb f20.N wf (ev D.tb cf f20.N wf 59) f20.scope (f20.body.getD 3 (.Pass ⟨0, 0, 0, 0⟩)) =
  sPar2 5 6 (eCons (xBf (eCons (xVar 3) (aNil)) (MP.f1 dictV)) (eCons (xBf (eCons (xVar 4) (aNil)) (MP.f1 dictV)) (aNil))) := by kernel_rfl
theorem s20_4 (cf : Cf) (wf : Nat) : stepS D.tb f20.N wf (ev D.tb cf f20.N wf 59) f20.scope (f20.body.getD 4 (.Pass ⟨0, 0, 0, 0⟩)) =
  sAsg (eIf (tOrF (tCmp (cmpF D.tb cf .NotEq) (xVar 4) (xNew (.dct []))) (tCmp (cmpF D.tb cf .Eq) (eCall 2 (cf 13) [] (eCons (xVar 1) (eCons (xLit (.int 2)) (aNil)))) (xLit (.int 0)))) (eMake 0 3 (cf 4) [] (eCons (xVar 5) (eCons (xVar 6) (aNil)))) (eMake 0 3 (cf 4) [.tup []] (eCons (xVar 5) (aNil)))) (gNm 7) := by kernel_rfl
theorem s20_5 (cf : Cf) (wf : Nat) : stepS D.tb f20.N wf (ev D.tb cf f20.N wf 59) f20.scope (f20.body.getD 5 (.Pass ⟨0, 0, 0, 0⟩)) =
  sExpr (eBm (bmT "clear") (xVar 5) (aNil)) := by kernel_rfl
theorem s20_6 (cf : Cf) (wf : Nat) : stepS D.tb f20.N wf (ev D.tb cf f20.N wf 59) f20.scope (f20.body.getD 6 (.Pass ⟨0, 0, 0, 0⟩)) =
  sSubF (xVar 6) (xLit (.str "late")) (xLit (.int 5)) := by kernel_rfl
theorem s20_7 (cf : Cf) (wf : Nat) : stepS D.tb f20.N wf (ev D.tb cf f20.N wf 59) f20.scope (f20.body.getD 7 (.Pass ⟨0, 0, 0, 0⟩)) =
  sIf (tNotF (eTru (eCall 3 (cf 19) [] (eCons (xVar 7) (eCons (xVar 3) (eCons (xVar 4) (aNil))))))) (sSeq (sRet (xLit (.bl false))) (sNx)) (sNx) := by kernel_rfl
theorem s20_8 (cf : Cf) (wf : Nat) : stepS D.tb f20.N wf (ev D.tb cf f20.N wf 59) f20.scope (f20.body.getD 8 (.Pass ⟨0, 0, 0, 0⟩)) =
  sExpr (eBm (bmT "append") (eMeth (cmF D.tb cf "row_kinds" 0) "row_kinds" (xVar 7) (aNil)) (eCons (xLit (.str "late")) (aNil))) := by kernel_rfl
theorem s20_9 (cf : Cf) (wf : Nat) : stepS D.tb f20.N wf (ev D.tb cf f20.N wf 59) f20.scope (f20.body.getD 9 (.Pass ⟨0, 0, 0, 0⟩)) =
  sExpr (eBm (bmT "clear") (eMeth (cmF D.tb cf "counter_names" 0) "counter_names" (xVar 7) (aNil)) (aNil)) := by kernel_rfl
theorem s20_10 (cf : Cf) (wf : Nat) : stepS D.tb f20.N wf (ev D.tb cf f20.N wf 59) f20.scope (f20.body.getD 10 (.Pass ⟨0, 0, 0, 0⟩)) =
  sAsg (eCall 2 (cf 17) [] (eCons (xVar 1) (eCons (xVar 2) (aNil)))) (gTp 2 (gsCons (gNm 8) (gsCons (gNm 9) (gsNil)))) := by kernel_rfl
theorem s20_11 (cf : Cf) (wf : Nat) : stepS D.tb f20.N wf (ev D.tb cf f20.N wf 59) f20.scope (f20.body.getD 11 (.Pass ⟨0, 0, 0, 0⟩)) =
  sIf (tCmp (cmpF D.tb cf .Eq) (eCall 2 (cf 13) [] (eCons (xVar 1) (eCons (xLit (.int 2)) (aNil)))) (xLit (.int 0))) (sSeq (sAsg (eTup (eCons (eCall 1 (cf 18) [] (eCons (xVar 3) (aNil))) (eCons (xBf (eCons (eLc (iVal (eRev (xBf (eCons (xVar 4) (aNil)) (MP.f1 sortedV)))) (gNm 10) (tTrue) (eTup (eCons (xVar 10) (eCons (xBin ixV (xVar 4) (xVar 10)) (aNil)))) [10]) (aNil)) (MP.f1 dictV)) (aNil)))) (gTp 2 (gsCons (gNm 8) (gsCons (gNm 9) (gsNil))))) (sSeq (sIf (tCmp (cmpF D.tb cf .Eq) (eCall 2 (cf 13) [] (eCons (xVar 1) (eCons (xLit (.int 2)) (aNil)))) (xLit (.int 0))) (sSeq (sSubF (xVar 8) (xBin ixV (xVar 2) (xLit (.int 0))) (xBin (ownBin (obF D.tb cf .Add) (bop .add)) (xBin ixV (xVar 3) (xBin ixV (xVar 2) (xLit (.int 0)))) (xLit (.int 1)))) (sNx)) (sNx)) (sNx))) (sNx) := by kernel_rfl
theorem s20_12 (cf : Cf) (wf : Nat) : stepS D.tb f20.N wf (ev D.tb cf f20.N wf 59) f20.scope (f20.body.getD 12 (.Pass ⟨0, 0, 0, 0⟩)) =
  sAsg (eMake 0 3 (cf 4) [] (eCons (xVar 8) (eCons (xVar 9) (aNil)))) (gNm 11) := by kernel_rfl
theorem s20_13 (cf : Cf) (wf : Nat) : stepS D.tb f20.N wf (ev D.tb cf f20.N wf 59) f20.scope (f20.body.getD 13 (.Pass ⟨0, 0, 0, 0⟩)) =
  sAsg (eAnd (xBin (cmpF D.tb cf .Eq) (eCall 1 (cf 18) [] (eCons (xVar 8) (aNil))) (eCall 1 (cf 18) [] (eCons (xVar 3) (aNil)))) (xBin (cmpF D.tb cf .Eq) (eCall 1 (cf 18) [] (eCons (xVar 9) (aNil))) (eCall 1 (cf 18) [] (eCons (xVar 4) (aNil))))) (gNm 12) := by kernel_rfl
theorem s20_14 (cf : Cf) (wf : Nat) : stepS D.tb f20.N wf (ev D.tb cf f20.N wf 59) f20.scope (f20.body.getD 14 (.Pass ⟨0, 0, 0, 0⟩)) =
  sIf (tOrF (tCmp (cmpF D.tb cf .NotEq) (xBin (cmpF D.tb cf .Eq) (xVar 7) (xVar 11)) (xVar 12)) (tOrF (tCmp (cmpF D.tb cf .NotEq) (xBin (cmpF D.tb cf .Eq) (xVar 11) (xVar 7)) (xVar 12)) (tCmp (cmpF D.tb cf .Eq) (xBin (cmpF D.tb cf .NotEq) (xVar 7) (xVar 11)) (xVar 12)))) (sSeq (sRet (xLit (.bl false))) (sNx)) (sNx) := by kernel_rfl
theorem s20_15 (cf : Cf) (wf : Nat) : stepS D.tb f20.N wf (ev D.tb cf f20.N wf 59) f20.scope (f20.body.getD 15 (.Pass ⟨0, 0, 0, 0⟩)) =
  sAsg (xBf (eCons (eLc (iVal (eSl (xVar 2) (pNone) (ePart (xLit (.int 4))))) (gNm 10) (tTrue) (eTup (eCons (xVar 10) (eCons (xBin (ownBin (obF D.tb cf .Add) (bop .add)) (eBm (bmT "get") (xVar 3) (eCons (xVar 10) (eCons (xLit (.int 0)) (aNil)))) (eBm (bmT "get") (xVar 8) (eCons (xVar 10) (eCons (xLit (.int 0)) (aNil))))) (aNil)))) [10]) (aNil)) (MP.f1 dictV)) (gNm 13) := by kernel_rfl
theorem s20_16 (cf : Cf) (wf : Nat) : stepS D.tb f20.N wf (ev D.tb cf f20.N wf 59) f20.scope (f20.body.getD 16 (.Pass ⟨0, 0, 0, 0⟩)) =
  sAsg (xBf (eCons (eLc (iVal (eSl (xVar 2) (ePart (xLit (.int 3))) (pNone))) (gNm 10) (tTrue) (eTup (eCons (xVar 10) (eCons (xBin (ownBin (obF D.tb cf .Add) (bop .add)) (eBm (bmT "get") (xVar 4) (eCons (xVar 10) (eCons (xLit (.int 0)) (aNil)))) (eBm (bmT "get") (xVar 9) (eCons (xVar 10) (eCons (xLit (.int 0)) (aNil))))) (aNil)))) [10]) (aNil)) (MP.f1 dictV)) (gNm 14) := by kernel_rfl
theorem s20_17 (cf : Cf) (wf : Nat) : stepS D.tb f20.N wf (ev D.tb cf f20.N wf 59) f20.scope (f20.body.getD 17 (.Pass ⟨0, 0, 0, 0⟩)) =
  sIf (tOrF (tNotF (eTru (eCall 3 (cf 19) [] (eCons (xBin (ownBin (obF D.tb cf .Add) (bop .add)) (xVar 7) (xVar 11)) (eCons (xVar 13) (eCons (xVar 14) (aNil))))))) (tNotF (eTru (eCall 3 (cf 19) [] (eCons (xVar 7) (eCons (xVar 3) (eCons (xVar 4) (aNil)))))))) (sSeq (sRet (xLit (.bl false))) (sNx)) (sNx) := by kernel_rfl
theorem s20_18 (cf : Cf) (wf : Nat) : stepS D.tb f20.N wf (ev D.tb cf f20.N wf 59) f20.scope (f20.body.getD 18 (.Pass ⟨0, 0, 0, 0⟩)) =
  sIf (tOrF (tCmp (cmpF D.tb cf .NotEq) (eMake 0 3 (cf 4) [] (eCons (xVar 3) (eCons (xLit (.tup [])) (aNil)))) (eMake 0 3 (cf 4) [.tup []] (eCons (xVar 3) (aNil)))) (tCmp (cmpF D.tb cf .NotEq) (eMake 0 3 (cf 4) [] (eCons (xVar 3) (eCons (xNew (.dct [])) (aNil)))) (eMake 0 3 (cf 4) [] (eCons (xVar 3) (eCons (eLst (aNil)) (aNil)))))) (sSeq (sRet (xLit (.bl false))) (sNx)) (sNx) := by kernel_rfl
theorem s20_19 (cf : Cf) (wf : Nat) : stepS D.tb f20.N wf (ev D.tb cf f20.N wf 59) f20.scope (f20.body.getD 19 (.Pass ⟨0, 0, 0, 0⟩)) =
  sRet (eAnd (xBin (cmpF D.tb cf .Eq) (eMake 0 3 (cf 4) [.tup []] (eCons (xNew (.dct [])) (aNil))) (eMake 0 3 (cf 4) [] (eCons (xNew (.dct [])) (eCons (xNew (.dct [])) (aNil))))) (eAnd (xBin (cmpF D.tb cf .Eq) (eMeth (cmF D.tb cf "size" 0) "size" (eMake 0 3 (cf 4) [.tup []] (eCons (xNew (.dct [])) (aNil))) (aNil)) (xLit (.int 0))) (eAnd (xBin (cmpF D.tb cf .NotEq) (xVar 7) (xVar 3)) (eNot (xBin (cmpF D.tb cf .Eq) (xVar 7) (xLit .non)))))) := by kernel_rfl
theorem s20_eq (cf : Cf) (wf : Nat) : (ev D.tb cf f20.N wf 60).Ss f20.scope f20.body = s20 cf wf := by
  have e : f20.body = [f20.body.getD 0 (.Pass ⟨0, 0, 0, 0⟩), f20.body.getD 1 (.Pass ⟨0, 0, 0, 0⟩), f20.body.getD 2 (.Pass ⟨0, 0, 0, 0⟩), f20.body.getD 3 (.Pass ⟨0, 0, 0, 0⟩), f20.body.getD 4 (.Pass ⟨0, 0, 0, 0⟩), f20.body.getD 5 (.Pass ⟨0, 0, 0, 0⟩), f20.body.getD 6 (.Pass ⟨0, 0, 0, 0⟩), f20.body.getD 7 (.Pass ⟨0, 0, 0, 0⟩), f20.body.getD 8 (.Pass ⟨0, 0, 0, 0⟩), f20.body.getD 9 (.Pass ⟨0, 0, 0, 0⟩), f20.body.getD 10 (.Pass ⟨0, 0, 0, 0⟩), f20.body.getD 11 (.Pass ⟨0, 0, 0, 0⟩), f20.body.getD 12 (.Pass ⟨0, 0, 0, 0⟩), f20.body.getD 13 (.Pass ⟨0, 0, 0, 0⟩), f20.body.getD 14 (.Pass ⟨0, 0, 0, 0⟩), f20.body.getD 15 (.Pass ⟨0, 0, 0, 0⟩), f20.body.getD 16 (.Pass ⟨0, 0, 0, 0⟩), f20.body.getD 17 (.Pass ⟨0, 0, 0, 0⟩), f20.body.getD 18 (.Pass ⟨0, 0, 0, 0⟩), f20.body.getD 19 (.Pass ⟨0, 0, 0, 0⟩)] := by kernel_rfl
  show stepSs D.tb f20.N wf (ev D.tb cf f20.N wf 59) f20.scope f20.body = _
  generalize hb : f20.body = bb at e
  rw [e]
  simp only [stepSs, ← hb, s20_0, s20_1, s20_2, s20_3, s20_4, s20_5, s20_6, s20_7, s20_8, s20_9, s20_10, s20_11, s20_12, s20_13, s20_14, s20_15, s20_16, s20_17, s20_18, s20_19]
  rfl
end MPL
end

section
set_option autoImplicit false
set_option Elab.async false
set_option linter.all false
set_option maxRecDepth 10000
namespace MPL
open PySem L2 MP
abbrev C (wf d : Nat) : Cf := callF D.tb D.fn wf 60 d
theorem TD : TT D.tb 0 := ⟨by kernel_rfl, by kernel_rfl, by kernel_rfl, by kernel_rfl, by kernel_rfl, by kernel_rfl⟩
theorem fn0 : D.fn 0 = some f0.fn := by kernel_rfl
theorem fn1 : D.fn 1 = some f1.fn := by kernel_rfl
theorem fn2 : D.fn 2 = some f2.fn := by kernel_rfl
theorem fn3 : D.fn 3 = some f3.fn := by kernel_rfl
theorem fn4 : D.fn 4 = some f4.fn := by kernel_rfl
theorem fn5 : D.fn 5 = some f5.fn := by kernel_rfl
theorem fn6 : D.fn 6 = some f6.fn := by kernel_rfl
theorem fn7 : D.fn 7 = some f7.fn := by kernel_rfl
theorem fn8 : D.fn 8 = some f8.fn := by kernel_rfl
theorem fn9 : D.fn 9 = some f9.fn := by kernel_rfl
theorem fn10 : D.fn 10 = some f10.fn := by kernel_rfl
theorem fn11 : D.fn 11 = some f11.fn := by kernel_rfl
theorem fn12 : D.fn 12 = some f12.fn := by kernel_rfl
theorem fn13 : D.fn 13 = some f13.fn := by kernel_rfl
theorem fn14 : D.fn 14 = some f14.fn := by kernel_rfl
theorem fn15 : D.fn 15 = some f15.fn := by kernel_rfl
theorem fn16 : D.fn 16 = some f16.fn := by kernel_rfl
theorem fn17 : D.fn 17 = some f17.fn := by kernel_rfl
theorem fn18 : D.fn 18 = some f18.fn := by kernel_rfl
theorem fn19 : D.fn 19 = some f19.fn := by kernel_rfl
theorem fn20 : D.fn 20 = some f20.fn := by kernel_rfl
section
variable {wf d : Nat}
theorem draw : Dr (C wf (d + 1) 13) := fun h n m hS hn hm hm2 => draw_call (f := f13.fn) fn13 rfl rfl (fun cf => (s13_eq cf wf).trans rfl) hS hn hm hm2
theorem source {ns : List Int} {h : MP.Heap} : Ok (C wf (d + 1) 12 [.scr ns] h) fun v h' => ∃ g sd, v = .ref h.length ∧ 0 ≤ sd ∧ sd < 2147483647 ∧ h' = h ++ [(false, .lst (srcL g sd 0))] :=
  ok_run (s := sourceS D.tb (C wf d)) fn12 rfl ((s12_eq _ wf).trans rfl) source_ok
theorem isName : IsNameOk (C wf (d + 1) 0) := fun h x hx => ok_run (s := isNameS D.tb (C wf d)) fn0 rfl ((s0_eq _ wf).trans rfl) (isName_ok TD.ss hx)
theorem isInt : IsIntOk (C wf (d + 1) 1) := fun h i => ok_run (s := isIntS D.tb) fn1 rfl ((s1_eq _ wf).trans rfl) (isInt_ok TD)
theorem wn : LessOk (C wf (d + 1) 2) := fun h a l hp A hn hl => ok_run (s := wnS D.tb (C wf d)) fn2 rfl ((s2_eq _ wf).trans rfl) (wn_ok hp A hn hl)
theorem lawLess : LessOk (C wf (d + 1) 18) := fun h a l hp A hn hl => ok_run (s := lawLessS D.tb (C wf d)) fn18 rfl ((s18_eq _ wf).trans rfl) (lawLess_ok hp A hn hl)
theorem addedC : AddedOk (C wf (d + 1) 3) := fun h a b l m hp A A' hn hl => ok_run (s := addedS D.tb (C wf d)) fn3 rfl ((s3_eq _ wf).trans rfl) (added_ok hp A A' hn hl)
theorem init : InitOk 0 (C wf (d + 2) 4) := fun h s rv cv R Cc hs dr dc gR gC pR => ok_run (s := tabInitS D.tb (C wf (d + 1)) (C wf (d + 1) 0) (C wf (d + 1) 1) (C wf (d + 1) 2) (sSeq sBad sNx) (sSeq sBad sNx)) fn4 rfl ((s4_eq _ wf).trans rfl)
  (by
    have := tabInit_ok (cf := C wf (d + 1)) (r1 := sSeq sBad sNx) (r2 := sSeq sBad sNx) TD (isName (wf := wf) (d := d)) (isInt (wf := wf) (d := d)) (wn (wf := wf) (d := d)) hs dr dc gR gC pR (rt := fun v h' => v = .non ∧ ∃ ra ca, Aw h' s (.ins 0 (tabF ra ca)) ∧ Aw h' ra (.dct (dI (lessL R))) ∧ Aw h' ca (.dct (dI (lessL Cc))) ∧ MP.Fr (fun x => x = s) h h' ∧ h.length ≤ ra ∧ h.length ≤ ca) (bk := fun _ _ => False) (ct := fun _ _ => False)
    simp only [true_and]
    exact this)
theorem name : NameOk (C wf (d + 2) 14) := fun h t tk n hS hn ht hk => ok_run (s := nameS D.tb (C wf (d + 1)) (C wf (d + 1) 13)) fn14 rfl ((s14_eq _ wf).trans rfl) (name_ok draw hS hn ht hk)
theorem namesC {h : MP.Heap} {n mi : Int} {m : Nat} (hmi : mi = m) (hS : Sr h 0 n) (hn : n < 70000) (hm : m < 26) : Ok (C wf (d + 3) 15 [.ref 0, .int mi] h) fun v h' => ∃ (a : Nat) (xs : List Str), v = .ref a ∧ Aw h' a (.lst (xs.map Val.str)) ∧ xs.length = m ∧ xs.Nodup ∧ (∀ x ∈ xs, Nm x) ∧ Le h h' ∧ Sr h' 0 (n + 10 * m) :=
  ok_run (s := namesS (C wf (d + 2) 14)) fn15 rfl ((s15_eq _ wf).trans rfl) (by
    show OkS (namesS (C wf (d + 2) 14) [some (.ref 0), some (.int mi), none, none] h) _ _ _ _
    rw [hmi]
    with_reducible exact names_ok name hS hn hm)
/-! ### methods -/
theorem cm5 (cf : Cf) : cmF D.tb cf "rows" 1 0 = some ⟨2, cf 5, []⟩ := by kernel_rfl
theorem cm6 (cf : Cf) : cmF D.tb cf "worth" 1 0 = some ⟨2, cf 6, []⟩ := by kernel_rfl
theorem cm7 (cf : Cf) : cmF D.tb cf "row_kinds" 0 0 = some ⟨1, cf 7, []⟩ := by kernel_rfl
theorem cm8 (cf : Cf) : cmF D.tb cf "counter_names" 0 0 = some ⟨1, cf 8, []⟩ := by kernel_rfl
theorem cm9 (cf : Cf) : cmF D.tb cf "size" 0 0 = some ⟨1, cf 9, []⟩ := by kernel_rfl
theorem nf1 (ra ca : Nat) : (tabF ra ca).lookup ("rows" : Str) = none := rfl
theorem nf2 (ra ca : Nat) : (tabF ra ca).lookup ("worth" : Str) = none := rfl
theorem nf3 (ra ca : Nat) : (tabF ra ca).lookup ("row_kinds" : Str) = none := rfl
theorem nf4 (ra ca : Nat) : (tabF ra ca).lookup ("counter_names" : Str) = none := rfl
theorem nf5 (ra ca : Nat) : (tabF ra ca).lookup ("size" : Str) = none := rfl
theorem rowsC {h : MP.Heap} {tv : Val} {R K : List (Str × Int)} {x : Str} (t : IsTab 0 h tv R K) : Ok (C wf (d + 1) 5 [tv, .str x] h) fun v h' => v = .int (look0 R x) ∧ h' = h := by
  obtain ⟨s, ra, ca, rfl, a, b, c⟩ := t
  exact ok_run (s := rowsS D.tb (C wf d) "own_rows") fn5 rfl ((s5_eq _ wf).trans rfl) (rows_ok TD TD.n1 a (tabF1 ra ca) b)
theorem worthC {h : MP.Heap} {tv : Val} {R K : List (Str × Int)} {x : Str} (t : IsTab 0 h tv R K) : Ok (C wf (d + 1) 6 [tv, .str x] h) fun v h' => v = .int (look0 K x) ∧ h' = h := by
  obtain ⟨s, ra, ca, rfl, a, b, c⟩ := t
  exact ok_run (s := rowsS D.tb (C wf d) "own_counters") fn6 rfl ((s6_eq _ wf).trans rfl) (rows_ok TD TD.n2 a (tabF2 ra ca) c)
theorem rowsO {h : MP.Heap} {s : Nat} {v : Val} {t : Ty} (ht : tyOf v h = some t) (htt : D.tb.tt t (.b "str") = some false) : Ok (C wf (d + 1) 5 [.ref s, v] h) fun v h' => v = .int 0 ∧ h' = h :=
  ok_run (s := rowsS D.tb (C wf d) "own_rows") fn5 rfl ((s5_eq _ wf).trans rfl) (rows_odd ht htt)
theorem worthO {h : MP.Heap} {s : Nat} {v : Val} {t : Ty} (ht : tyOf v h = some t) (htt : D.tb.tt t (.b "str") = some false) : Ok (C wf (d + 1) 6 [.ref s, v] h) fun v h' => v = .int 0 ∧ h' = h :=
  ok_run (s := rowsS D.tb (C wf d) "own_counters") fn6 rfl ((s6_eq _ wf).trans rfl) (rows_odd ht htt)
theorem kindsC {h : MP.Heap} {tv : Val} {R K : List (Str × Int)} (t : IsTab 0 h tv R K) : Ok (C wf (d + 1) 7 [tv] h) fun v h' => v = .ref h.length ∧ h' = h ++ [(false, .lst (((lessL R).map (·.1)).map Val.str))] := by
  obtain ⟨s, ra, ca, rfl, a, b, c⟩ := t
  exact ok_run (s := kindsS D.tb "own_rows") fn7 rfl ((s7_eq _ wf).trans rfl) (kinds_ok TD.n1 a (tabF1 ra ca) b)
theorem ctrsC {h : MP.Heap} {tv : Val} {R K : List (Str × Int)} (t : IsTab 0 h tv R K) : Ok (C wf (d + 1) 8 [tv] h) fun v h' => v = .ref h.length ∧ h' = h ++ [(false, .lst (((lessL K).map (·.1)).map Val.str))] := by
  obtain ⟨s, ra, ca, rfl, a, b, c⟩ := t
  exact ok_run (s := kindsS D.tb "own_counters") fn8 rfl ((s8_eq _ wf).trans rfl) (kinds_ok TD.n2 a (tabF2 ra ca) c)
theorem sizeC {h : MP.Heap} {tv : Val} {R K : List (Str × Int)} (t : IsTab 0 h tv R K) (hn : (R.map (·.1)).Nodup) : Ok (C wf (d + 1) 9 [tv] h) fun v h' => v = .int (R.map (·.2)).sum ∧ Lx h h' := by
  obtain ⟨s, ra, ca, rfl, a, b, c⟩ := t
  exact ok_run (s := sizeS D.tb) fn9 rfl ((s9_eq _ wf).trans rfl) (size_ok TD a b hn)
theorem eqC {h : MP.Heap} {v u : Val} {R K R' K' : List (Str × Int)} (t : IsTab 0 h v R K) (t' : IsTab 0 h u R' K') (nR : (R.map (·.1)).Nodup) (nC : (K.map (·.1)).Nodup) (nR' : (R'.map (·.1)).Nodup) (nC' : (K'.map (·.1)).Nodup) : Ok (C wf (d + 1) 10 [v, u] h) fun v h' => v = .bl (decide (lessL R = lessL R' ∧ lessL K = lessL K')) ∧ h' = h :=
  ok_run (s := tabEqS D.tb (C wf d) 0) fn10 rfl ((s10_eq _ wf).trans rfl) (tabEq_ok TD t t' nR nC nR' nC')
theorem eqO {h : MP.Heap} {v u : Val} {t : Ty} (ht : tyOf u h = some t) (htt : D.tb.tt t (.c 0) = some false) : Ok (C wf (d + 1) 10 [v, u] h) fun v h' => v = .bl false ∧ h' = h :=
  ok_run (s := tabEqS D.tb (C wf d) 0) fn10 rfl ((s10_eq _ wf).trans rfl) (tabEq_odd ht htt)
theorem addC {h : MP.Heap} {v u : Val} {R K R' K' : List (Str × Int)} (hp : 0 < h.length) (t : IsTab 0 h v R K) (t' : IsTab 0 h u R' K') (gR : Good1 R) (gC : Good1 K) (gR' : Good1 R') (gC' : Good1 K')
    (pR : ∀ p ∈ R, 0 ≤ p.2) (pR' : ∀ p ∈ R', 0 ≤ p.2) (f1 : R.length + R'.length < 32) (f2 : K.length + K'.length < 32) : Ok (C wf (d + 3) 11 [v, u] h) fun v h' => IsTab 0 h' v (addL (lessL R) (lessL R')) (addL (lessL K) (lessL K')) ∧ Lx h h' :=
  ok_run (s := tabAddS D.tb 0 (C wf (d + 2) 3) (C wf (d + 2) 4)) fn11 rfl ((s11_eq _ wf).trans rfl) (tabAdd_ok TD addedC init hp t t' gR gC gR' gC' pR pR' f1 f2)
/-! ### == and + of tables as operators -/
theorem own_eq {sg : Bool} {cf : Cf} {h : MP.Heap} {s : Nat} {fl : List (Str × Val)} {y : Val} {t : Ty} {Q : Val → MP.Heap → Prop} (A : rd h s = some (.ins 0 fl)) (ht : tyOf y h = some t) (hn : D.tb.nf 0 t = true) :
    Ok (eqOp (oeF D.tb cf) D.tb.nf sg (.ref s) y h) Q = Ok (cf 10 [.ref s, y] h) fun v h1 => Bl v fun b => Q (.bl (b != sg)) h1 := by
  unfold eqOp
  have hi : insOf (.ref s) h = some (0, fl) := by unfold insOf; simp only [A]
  rw [hi]
  dsimp only
  unfold ownEq
  rw [show oeF D.tb cf 0 = some ⟨2, cf 10, []⟩ by kernel_rfl, ht]
  dsimp only
  rw [if_pos ⟨hn, rfl⟩]
  refine ok_congr fun v h1 => ?_
  cases v <;> rfl
theorem eqT {cf : Cf} {h : MP.Heap} {s : Nat} {fl : List (Str × Val)} {y : Val} {t : Ty} {Q : Val → MP.Heap → Prop} (A : rd h s = some (.ins 0 fl)) (ht : tyOf y h = some t) (hn : D.tb.nf 0 t = true) :
    Ok (cmpF D.tb cf .Eq (.ref s) y h) Q = Ok (cf 10 [.ref s, y] h) fun v h1 => Bl v fun b => Q (.bl (b != false)) h1 := own_eq A ht hn
theorem neT {cf : Cf} {h : MP.Heap} {s : Nat} {fl : List (Str × Val)} {y : Val} {t : Ty} {Q : Val → MP.Heap → Prop} (A : rd h s = some (.ins 0 fl)) (ht : tyOf y h = some t) (hn : D.tb.nf 0 t = true) :
    Ok (cmpF D.tb cf .NotEq (.ref s) y h) Q = Ok (cf 10 [.ref s, y] h) fun v h1 => Bl v fun b => Q (.bl (b != true)) h1 := own_eq A ht hn
theorem addT {cf : Cf} {h : MP.Heap} {s s' : Nat} {fl fl' : List (Str × Val)} {base : Val → Val → MP.Heap → Rs Val} (A : rd h s = some (.ins 0 fl)) (A' : rd h s' = some (.ins 0 fl')) :
    ownBin (obF D.tb cf .Add) base (.ref s) (.ref s') h = cf 11 [.ref s, .ref s'] h := by
  unfold ownBin
  have hi : insOf (.ref s) h = some (0, fl) := by unfold insOf; simp only [A]
  have hi' : insOf (.ref s') h = some (0, fl') := by unfold insOf; simp only [A']
  rw [hi, hi']
  dsimp only
  rw [show obF D.tb cf .Add 0 = some ⟨2, cf 11, []⟩ by kernel_rfl]
  dsimp only
  rw [if_pos ⟨rfl, rfl⟩]
  rfl
theorem nf00 : D.tb.nf 0 (.c 0) = true := by kernel_rfl
/-! ### drawn numbers -/
theorem big {h : MP.Heap} {n : Int} (hS : Sr h 0 n) (hn : n < 80000) : Ok (C wf (d + 2) 16 [.ref 0] h) fun v h' => ∃ z, v = .int z ∧ 0 ≤ z ∧ Le h h' ∧ Sr h' 0 (n + 2) := by
  refine ok_run (s := s16 (C wf (d + 1)) wf) fn16 rfl (s16_eq _ wf) ?_
  show OkS (s16 (C wf (d + 1)) wf [some (.ref 0)] h) _ _ _ _
  unfold s16
  simp -implicitDefEqProofs only [k_asg, k_setE, k_asg2, k_ret, k_expr, k_if, k_nx, k_bk, k_ct, k_var, k_lit, k_bin, k_then, k_bf, k_nil, k_cons, k_f1, k_new, k_al, k_tup, k_lst, k_call, k_and, k_or, k_not, k_ifx, k_tru, k_tcmp, k_tand, k_tor, k_tnot, k_chain, k_tchn, k_ttrue, k_fld, k_make, k_meth, k_bmX, k_sub, k_setF, k_lc, k_dc, k_for, k_ival, k_iitems, k_irng, k_turn, k_dturn, ok_ok, ok_opt, bl_bl, List.getElem?_cons_zero, List.getElem?_cons_succ, Option.join_some, List.set_cons_succ, List.set_cons_zero, own_int, own_str, b_add, b_sub, k_intI, c_eqI, c_neI, c_lt, c_ge, c_gt, List.length_cons, List.length_nil, List.cons_append, List.nil_append, Nat.zero_add, lim_ok, Nat.reduceAdd, Nat.reduceLeDiff, true_and, ne_eq, reduceCtorEq, not_false_eq_true, and_true, bk_str, List.cons.injEq, Val.int.injEq, wipeE, lock_none, unlock_none, if_T, if_F, Bool.false_eq_true, c_ltI, c_leI, k_sl, k_part, k_pnone, MP.sl_str, tr_bl, k_par2C, g_tp2, tm_join, tm_append, tm_clearL, tm_clearD, tm_extend, tm_pop, tm_get, tm_split, tm_partition, Option.some.injEq, exists_eq_left', exists_eq_left, k_seq, b_pow (powOk_of (i := 10) (j := 30) (by omega) (by omega) (by omega) (by omega))]
  refine (draw (wf := wf) (d := d) h n 9 hS (by omega) (by decide) (by decide)).imp ?_
  rintro v h1 ⟨z, rfl, z0, z1, _, l1, S1⟩
  try simp -implicitDefEqProofs only [k_asg, k_setE, k_asg2, k_ret, k_expr, k_if, k_nx, k_bk, k_ct, k_var, k_lit, k_bin, k_then, k_bf, k_nil, k_cons, k_f1, k_new, k_al, k_tup, k_lst, k_call, k_and, k_or, k_not, k_ifx, k_tru, k_tcmp, k_tand, k_tor, k_tnot, k_chain, k_tchn, k_ttrue, k_fld, k_make, k_meth, k_bmX, k_sub, k_setF, k_lc, k_dc, k_for, k_ival, k_iitems, k_irng, k_turn, k_dturn, ok_ok, ok_opt, bl_bl, List.getElem?_cons_zero, List.getElem?_cons_succ, Option.join_some, List.set_cons_succ, List.set_cons_zero, own_int, own_str, b_add, b_sub, k_intI, c_eqI, c_neI, c_lt, c_ge, c_gt, List.length_cons, List.length_nil, List.cons_append, List.nil_append, Nat.zero_add, lim_ok, Nat.reduceAdd, Nat.reduceLeDiff, true_and, ne_eq, reduceCtorEq, not_false_eq_true, and_true, bk_str, List.cons.injEq, Val.int.injEq, wipeE, lock_none, unlock_none, if_T, if_F, Bool.false_eq_true, c_ltI, c_leI, k_sl, k_part, k_pnone, MP.sl_str, tr_bl, k_par2C, g_tp2, tm_join, tm_append, tm_clearL, tm_clearD, tm_extend, tm_pop, tm_get, tm_split, tm_partition, Option.some.injEq, exists_eq_left', exists_eq_left]
  refine pick (m := 6) draw S1 (by omega) (by rfl) (by decide) (by simp) fun v h2 hv l2 S2 => ?_
  simp only [List.mem_cons, List.not_mem_nil, or_false] at hv
  have hb : (0 : Int) ≤ 10 ^ (30 : Int).toNat := by decide
  have l3 := l1.trans l2
  have S3 : Sr h2 0 (n + 2) := S2.mono (by omega)
  rcases hv with rfl | rfl | rfl | rfl | rfl | rfl
  · exact ⟨_, rfl, by decide, l3, S3⟩
  · exact ⟨_, rfl, by decide, l3, S3⟩
  · exact ⟨_, rfl, by decide, l3, S3⟩
  · exact ⟨_, rfl, by decide, l3, S3⟩
  · exact ⟨_, rfl, by decide, l3, S3⟩
  · exact ⟨_, rfl, by omega, l3, S3⟩
end
end MPL
end

section
set_option autoImplicit false
set_option Elab.async false
set_option linter.all false
set_option maxRecDepth 10000
namespace MPL
open PySem L2 MP
section
variable {wf d : Nat}
theorem lists {h : MP.Heap} {n : Int} {a : Nat} {xs : List Str} (hS : Sr h 0 n) (hn : n < 60000) (A : At h a (.lst (xs.map Val.str))) (hl : xs.length = 6) (hnd : xs.Nodup) :
    Ok (C wf (d + 3) 17 [.ref 0, .ref a] h) fun v h' => ∃ (na wa : Nat) (N W : List (Str × Int)), v = .tup [.ref na, .ref wa] ∧ Aw h' na (.dct (dI N)) ∧ Aw h' wa (.dct (dI W)) ∧ N.map (·.1) = xs.take 4 ∧ W.map (·.1) = xs.drop 3 ∧ (∀ p ∈ N, 0 ≤ p.2) ∧ Le h h' ∧ Sr h' 0 (n + 20) := by
  refine ok_run (s := s17 (C wf (d + 2)) wf) fn17 rfl (s17_eq _ wf) ?_
  show OkS (s17 (C wf (d + 2)) wf [some (.ref 0), some (.ref a), none, none] h) _ _ _ _
  unfold s17
  have hp : 0 < h.length := hS.lt
  with_reducible refine k_seqK fun K hK => ?_
  simp -implicitDefEqProofs only [k_asg, k_setE, k_asg2, k_ret, k_expr, k_if, k_nx, k_bk, k_ct, k_var, k_lit, k_bin, k_then, k_bf, k_nil, k_cons, k_f1, k_new, k_al, k_tup, k_lst, k_call, k_and, k_or, k_not, k_ifx, k_tru, k_tcmp, k_tand, k_tor, k_tnot, k_chain, k_tchn, k_ttrue, k_fld, k_make, k_meth, k_bmX, k_sub, k_setF, k_lc, k_dc, k_for, k_ival, k_iitems, k_irng, k_turn, k_dturn, ok_ok, ok_opt, bl_bl, List.getElem?_cons_zero, List.getElem?_cons_succ, Option.join_some, List.set_cons_succ, List.set_cons_zero, own_int, own_str, b_add, b_sub, k_intI, c_eqI, c_neI, c_lt, c_ge, c_gt, List.length_cons, List.length_nil, List.cons_append, List.nil_append, Nat.zero_add, lim_ok, Nat.reduceAdd, Nat.reduceLeDiff, true_and, ne_eq, reduceCtorEq, not_false_eq_true, and_true, bk_str, List.cons.injEq, Val.int.injEq, wipeE, lock_none, unlock_none, if_T, if_F, Bool.false_eq_true, c_ltI, c_leI, k_sl, k_part, k_pnone, MP.sl_str, tr_bl, k_par2C, g_tp2, tm_join, tm_append, tm_clearL, tm_clearD, tm_extend, tm_pop, tm_get, tm_split, tm_partition, Option.some.injEq, exists_eq_left', exists_eq_left, sl_lst A.2, cut_hi4]
  simp -implicitDefEqProofs only [k_asg, k_setE, k_asg2, k_ret, k_expr, k_if, k_nx, k_bk, k_ct, k_var, k_lit, k_bin, k_then, k_bf, k_nil, k_cons, k_f1, k_new, k_al, k_tup, k_lst, k_call, k_and, k_or, k_not, k_ifx, k_tru, k_tcmp, k_tand, k_tor, k_tnot, k_chain, k_tchn, k_ttrue, k_fld, k_make, k_meth, k_bmX, k_sub, k_setF, k_lc, k_dc, k_for, k_ival, k_iitems, k_irng, k_turn, k_dturn, ok_ok, ok_opt, bl_bl, List.getElem?_cons_zero, List.getElem?_cons_succ, Option.join_some, List.set_cons_succ, List.set_cons_zero, own_int, own_str, b_add, b_sub, k_intI, c_eqI, c_neI, c_lt, c_ge, c_gt, List.length_cons, List.length_nil, List.cons_append, List.nil_append, Nat.zero_add, lim_ok, Nat.reduceAdd, Nat.reduceLeDiff, true_and, ne_eq, reduceCtorEq, not_false_eq_true, and_true, bk_str, List.cons.injEq, Val.int.injEq, wipeE, lock_none, unlock_none, if_T, if_F, Bool.false_eq_true, c_ltI, c_leI, k_sl, k_part, k_pnone, MP.sl_str, tr_bl, k_par2C, g_tp2, tm_join, tm_append, tm_clearL, tm_clearD, tm_extend, tm_pop, tm_get, tm_split, tm_partition, Option.some.injEq, exists_eq_left', exists_eq_left, src_lst (rd_new (h := h) rfl)]
  refine ⟨by simp; exact le_lim (by omega), ?_⟩
  have l1 : Lx h (h ++ [(false, B.lst ((xs.map Val.str).take 4))]) := Fr.app _ _ _
  generalize h ++ [(false, B.lst ((xs.map Val.str).take 4))] = h1 at l1 ⊢
  have S1 := (l1.src hS).lock (lk := some h.length) (by rintro k ⟨⟩; exact hp)
  rw [← List.map_take]
  refine (lc_relK (fun v o => ∃ x z, v = Val.str x ∧ o = some (Val.tup [.str x, .int z]) ∧ 0 ≤ z) 2 (by decide) _ [] _ n S1 ?_).imp ?_
  · intro v hv h2 m l2 S2 m1 m2 K1 hK1
    obtain ⟨x, hx, rfl⟩ := List.mem_map.mp hv
    have : (((xs.take 4).map Val.str).length : Int) ≤ 4 := by simp; omega
    simp -implicitDefEqProofs only [k_asg, k_setE, k_asg2, k_ret, k_expr, k_if, k_nx, k_bk, k_ct, k_var, k_lit, k_bin, k_then, k_bf, k_nil, k_cons, k_f1, k_new, k_al, k_tup, k_lst, k_call, k_and, k_or, k_not, k_ifx, k_tru, k_tcmp, k_tand, k_tor, k_tnot, k_chain, k_tchn, k_ttrue, k_fld, k_make, k_meth, k_bmX, k_sub, k_setF, k_lc, k_dc, k_for, k_ival, k_iitems, k_irng, k_turn, k_dturn, ok_ok, ok_opt, bl_bl, List.getElem?_cons_zero, List.getElem?_cons_succ, Option.join_some, List.set_cons_succ, List.set_cons_zero, own_int, own_str, b_add, b_sub, k_intI, c_eqI, c_neI, c_lt, c_ge, c_gt, List.length_cons, List.length_nil, List.cons_append, List.nil_append, Nat.zero_add, lim_ok, Nat.reduceAdd, Nat.reduceLeDiff, true_and, ne_eq, reduceCtorEq, not_false_eq_true, and_true, bk_str, List.cons.injEq, Val.int.injEq, wipeE, lock_none, unlock_none, if_T, if_F, Bool.false_eq_true, c_ltI, c_leI, k_sl, k_part, k_pnone, MP.sl_str, tr_bl, k_par2C, g_tp2, tm_join, tm_append, tm_clearL, tm_clearD, tm_extend, tm_pop, tm_get, tm_split, tm_partition, Option.some.injEq, exists_eq_left', exists_eq_left]
    refine (big (wf := wf) (d := d) S2 (by omega)).imp ?_
    rintro v h3 ⟨z, rfl, hz, l3, S3⟩
    try simp -implicitDefEqProofs only [k_asg, k_setE, k_asg2, k_ret, k_expr, k_if, k_nx, k_bk, k_ct, k_var, k_lit, k_bin, k_then, k_bf, k_nil, k_cons, k_f1, k_new, k_al, k_tup, k_lst, k_call, k_and, k_or, k_not, k_ifx, k_tru, k_tcmp, k_tand, k_tor, k_tnot, k_chain, k_tchn, k_ttrue, k_fld, k_make, k_meth, k_bmX, k_sub, k_setF, k_lc, k_dc, k_for, k_ival, k_iitems, k_irng, k_turn, k_dturn, ok_ok, ok_opt, bl_bl, List.getElem?_cons_zero, List.getElem?_cons_succ, Option.join_some, List.set_cons_succ, List.set_cons_zero, own_int, own_str, b_add, b_sub, k_intI, c_eqI, c_neI, c_lt, c_ge, c_gt, List.length_cons, List.length_nil, List.cons_append, List.nil_append, Nat.zero_add, lim_ok, Nat.reduceAdd, Nat.reduceLeDiff, true_and, ne_eq, reduceCtorEq, not_false_eq_true, and_true, bk_str, List.cons.injEq, Val.int.injEq, wipeE, lock_none, unlock_none, if_T, if_F, Bool.false_eq_true, c_ltI, c_leI, k_sl, k_part, k_pnone, MP.sl_str, tr_bl, k_par2C, g_tp2, tm_join, tm_append, tm_clearL, tm_clearD, tm_extend, tm_pop, tm_get, tm_split, tm_partition, Option.some.injEq, exists_eq_left', exists_eq_left]
    exact hK1 _ _ ⟨x, z, rfl, rfl, hz⟩ l3 S3
  rintro ys h2 ⟨l2, S2, os, ro, rfl⟩
  obtain ⟨N, e1, e2, e3⟩ := all2_pairs ro
  have l3 := Fr.unlock l2
  have S3 := Sr.unlock (h1 := h1) (lk := some h.length) S2 (by rintro k ⟨⟩; exact hp)
  rw [List.nil_append, e1]
  have l4 := l1.le.trans l3
  generalize unlockH h1 h2 (some h.length) = h3 at l4 S3 ⊢
  clear l3 S2 l2 ro
  have hN : (N.map (·.1)).Nodup := by rw [e2]; exact (List.take_sublist _ _).nodup hnd
  simp -implicitDefEqProofs only [k_asg, k_setE, k_asg2, k_ret, k_expr, k_if, k_nx, k_bk, k_ct, k_var, k_lit, k_bin, k_then, k_bf, k_nil, k_cons, k_f1, k_new, k_al, k_tup, k_lst, k_call, k_and, k_or, k_not, k_ifx, k_tru, k_tcmp, k_tand, k_tor, k_tnot, k_chain, k_tchn, k_ttrue, k_fld, k_make, k_meth, k_bmX, k_sub, k_setF, k_lc, k_dc, k_for, k_ival, k_iitems, k_irng, k_turn, k_dturn, ok_ok, ok_opt, bl_bl, List.getElem?_cons_zero, List.getElem?_cons_succ, Option.join_some, List.set_cons_succ, List.set_cons_zero, own_int, own_str, b_add, b_sub, k_intI, c_eqI, c_neI, c_lt, c_ge, c_gt, List.length_cons, List.length_nil, List.cons_append, List.nil_append, Nat.zero_add, lim_ok, Nat.reduceAdd, Nat.reduceLeDiff, true_and, ne_eq, reduceCtorEq, not_false_eq_true, and_true, bk_str, List.cons.injEq, Val.int.injEq, wipeE, lock_none, unlock_none, if_T, if_F, Bool.false_eq_true, c_ltI, c_leI, k_sl, k_part, k_pnone, MP.sl_str, tr_bl, k_par2C, g_tp2, tm_join, tm_append, tm_clearL, tm_clearD, tm_extend, tm_pop, tm_get, tm_split, tm_partition, Option.some.injEq, exists_eq_left', exists_eq_left, dict_pairs (l := N) (f := Val.int) (rd_new (h := h3) rfl) hN]
  refine hK _ _ ?_
  clear hK K
  have l5 : Lx h3 (h3 ++ [(false, B.lst (N.map fun p => Val.tup [.str p.1, .int p.2]))] ++ [(false, B.dct (dI N))]) := (Fr.app _ _ _).trans (Fr.app _ _ _)
  have A5 : Aw (h3 ++ [(false, B.lst (N.map fun p => Val.tup [.str p.1, .int p.2]))] ++ [(false, B.dct (dI N))]) (h3 ++ [(false, B.lst (N.map fun p => Val.tup [.str p.1, .int p.2]))]).length (.dct (dI N)) := Aw.new (by simp)
  generalize (h3 ++ [(false, B.lst (N.map fun p => Val.tup [.str p.1, .int p.2]))]).length = na at A5 ⊢
  generalize h3 ++ [(false, B.lst (N.map fun p => Val.tup [.str p.1, .int p.2]))] ++ [(false, B.dct (dI N))] = h5 at l5 A5 ⊢
  have l6 := l4.trans l5.le
  have S5 := l5.src S3
  have B5 := A.le l6
  simp -implicitDefEqProofs only [k_asg, k_setE, k_asg2, k_ret, k_expr, k_if, k_nx, k_bk, k_ct, k_var, k_lit, k_bin, k_then, k_bf, k_nil, k_cons, k_f1, k_new, k_al, k_tup, k_lst, k_call, k_and, k_or, k_not, k_ifx, k_tru, k_tcmp, k_tand, k_tor, k_tnot, k_chain, k_tchn, k_ttrue, k_fld, k_make, k_meth, k_bmX, k_sub, k_setF, k_lc, k_dc, k_for, k_ival, k_iitems, k_irng, k_turn, k_dturn, ok_ok, ok_opt, bl_bl, List.getElem?_cons_zero, List.getElem?_cons_succ, Option.join_some, List.set_cons_succ, List.set_cons_zero, own_int, own_str, b_add, b_sub, k_intI, c_eqI, c_neI, c_lt, c_ge, c_gt, List.length_cons, List.length_nil, List.cons_append, List.nil_append, Nat.zero_add, lim_ok, Nat.reduceAdd, Nat.reduceLeDiff, true_and, ne_eq, reduceCtorEq, not_false_eq_true, and_true, bk_str, List.cons.injEq, Val.int.injEq, wipeE, lock_none, unlock_none, if_T, if_F, Bool.false_eq_true, c_ltI, c_leI, k_sl, k_part, k_pnone, MP.sl_str, tr_bl, k_par2C, g_tp2, tm_join, tm_append, tm_clearL, tm_clearD, tm_extend, tm_pop, tm_get, tm_split, tm_partition, Option.some.injEq, exists_eq_left', exists_eq_left, k_seq, sl_lst B5.2, cut_lo3]
  simp -implicitDefEqProofs only [k_asg, k_setE, k_asg2, k_ret, k_expr, k_if, k_nx, k_bk, k_ct, k_var, k_lit, k_bin, k_then, k_bf, k_nil, k_cons, k_f1, k_new, k_al, k_tup, k_lst, k_call, k_and, k_or, k_not, k_ifx, k_tru, k_tcmp, k_tand, k_tor, k_tnot, k_chain, k_tchn, k_ttrue, k_fld, k_make, k_meth, k_bmX, k_sub, k_setF, k_lc, k_dc, k_for, k_ival, k_iitems, k_irng, k_turn, k_dturn, ok_ok, ok_opt, bl_bl, List.getElem?_cons_zero, List.getElem?_cons_succ, Option.join_some, List.set_cons_succ, List.set_cons_zero, own_int, own_str, b_add, b_sub, k_intI, c_eqI, c_neI, c_lt, c_ge, c_gt, List.length_cons, List.length_nil, List.cons_append, List.nil_append, Nat.zero_add, lim_ok, Nat.reduceAdd, Nat.reduceLeDiff, true_and, ne_eq, reduceCtorEq, not_false_eq_true, and_true, bk_str, List.cons.injEq, Val.int.injEq, wipeE, lock_none, unlock_none, if_T, if_F, Bool.false_eq_true, c_ltI, c_leI, k_sl, k_part, k_pnone, MP.sl_str, tr_bl, k_par2C, g_tp2, tm_join, tm_append, tm_clearL, tm_clearD, tm_extend, tm_pop, tm_get, tm_split, tm_partition, Option.some.injEq, exists_eq_left', exists_eq_left, src_lst (rd_new (h := h5) rfl)]
  have hp5 : 0 < h5.length := S5.lt
  refine ⟨by rw [List.length_drop, List.length_map]; exact le_lim (by omega), ?_⟩
  have l7 : Lx h5 (h5 ++ [(false, B.lst ((xs.map Val.str).drop 3))]) := Fr.app _ _ _
  generalize h5 ++ [(false, B.lst ((xs.map Val.str).drop 3))] = h7 at l7 ⊢
  have A7 := A5.lx l7
  have hna : h5.length ≠ na := Nat.ne_of_gt A5.lt
  have S7 := (l7.src S5).lock (lk := some h5.length) (by rintro k ⟨⟩; exact hp5)
  rw [← List.map_drop]
  have h4l : (((xs.take 4).map Val.str).length : Int) ≤ 4 := by simp; omega
  have h3l : (((xs.drop 3).map Val.str).length : Int) ≤ 3 := by simp; omega
  refine (lc_relK (fun v o => ∃ x z, v = Val.str x ∧ o = some (Val.tup [.str x, .int z]) ∧ True) 3 (by decide) _ [] _ _ S7 ?_).imp ?_
  · intro v hv h8 m l8 S8 m1 m2 K1 hK1
    obtain ⟨x, hx, rfl⟩ := List.mem_map.mp hv
    simp -implicitDefEqProofs only [k_asg, k_setE, k_asg2, k_ret, k_expr, k_if, k_nx, k_bk, k_ct, k_var, k_lit, k_bin, k_then, k_bf, k_nil, k_cons, k_f1, k_new, k_al, k_tup, k_lst, k_call, k_and, k_or, k_not, k_ifx, k_tru, k_tcmp, k_tand, k_tor, k_tnot, k_chain, k_tchn, k_ttrue, k_fld, k_make, k_meth, k_bmX, k_sub, k_setF, k_lc, k_dc, k_for, k_ival, k_iitems, k_irng, k_turn, k_dturn, ok_ok, ok_opt, bl_bl, List.getElem?_cons_zero, List.getElem?_cons_succ, Option.join_some, List.set_cons_succ, List.set_cons_zero, own_int, own_str, b_add, b_sub, k_intI, c_eqI, c_neI, c_lt, c_ge, c_gt, List.length_cons, List.length_nil, List.cons_append, List.nil_append, Nat.zero_add, lim_ok, Nat.reduceAdd, Nat.reduceLeDiff, true_and, ne_eq, reduceCtorEq, not_false_eq_true, and_true, bk_str, List.cons.injEq, Val.int.injEq, wipeE, lock_none, unlock_none, if_T, if_F, Bool.false_eq_true, c_ltI, c_leI, k_sl, k_part, k_pnone, MP.sl_str, tr_bl, k_par2C, g_tp2, tm_join, tm_append, tm_clearL, tm_clearD, tm_extend, tm_pop, tm_get, tm_split, tm_partition, Option.some.injEq, exists_eq_left', exists_eq_left]
    refine (big (wf := wf) (d := d) S8 (by omega)).imp ?_
    rintro v h9 ⟨z, rfl, hz, l9, S9⟩
    simp -implicitDefEqProofs only [k_asg, k_setE, k_asg2, k_ret, k_expr, k_if, k_nx, k_bk, k_ct, k_var, k_lit, k_bin, k_then, k_bf, k_nil, k_cons, k_f1, k_new, k_al, k_tup, k_lst, k_call, k_and, k_or, k_not, k_ifx, k_tru, k_tcmp, k_tand, k_tor, k_tnot, k_chain, k_tchn, k_ttrue, k_fld, k_make, k_meth, k_bmX, k_sub, k_setF, k_lc, k_dc, k_for, k_ival, k_iitems, k_irng, k_turn, k_dturn, ok_ok, ok_opt, bl_bl, List.getElem?_cons_zero, List.getElem?_cons_succ, Option.join_some, List.set_cons_succ, List.set_cons_zero, own_int, own_str, b_add, b_sub, k_intI, c_eqI, c_neI, c_lt, c_ge, c_gt, List.length_cons, List.length_nil, List.cons_append, List.nil_append, Nat.zero_add, lim_ok, Nat.reduceAdd, Nat.reduceLeDiff, true_and, ne_eq, reduceCtorEq, not_false_eq_true, and_true, bk_str, List.cons.injEq, Val.int.injEq, wipeE, lock_none, unlock_none, if_T, if_F, Bool.false_eq_true, c_ltI, c_leI, k_sl, k_part, k_pnone, MP.sl_str, tr_bl, k_par2C, g_tp2, tm_join, tm_append, tm_clearL, tm_clearD, tm_extend, tm_pop, tm_get, tm_split, tm_partition, Option.some.injEq, exists_eq_left', exists_eq_left, b_pow (powOk_of (i := 10) (j := 30) (by omega) (by omega) (by omega) (by omega))]
    refine pick (m := 3) draw S9 (by omega) (by rfl) (by decide) (by simp) fun v h10 hv l10 S10 => ?_
    obtain ⟨i, rfl⟩ : ∃ i, v = .int i := by
      simp only [List.mem_cons, List.not_mem_nil, or_false] at hv
      rcases hv with rfl | rfl | rfl <;> exact ⟨_, rfl⟩
    simp -implicitDefEqProofs only [k_asg, k_setE, k_asg2, k_ret, k_expr, k_if, k_nx, k_bk, k_ct, k_var, k_lit, k_bin, k_then, k_bf, k_nil, k_cons, k_f1, k_new, k_al, k_tup, k_lst, k_call, k_and, k_or, k_not, k_ifx, k_tru, k_tcmp, k_tand, k_tor, k_tnot, k_chain, k_tchn, k_ttrue, k_fld, k_make, k_meth, k_bmX, k_sub, k_setF, k_lc, k_dc, k_for, k_ival, k_iitems, k_irng, k_turn, k_dturn, ok_ok, ok_opt, bl_bl, List.getElem?_cons_zero, List.getElem?_cons_succ, Option.join_some, List.set_cons_succ, List.set_cons_zero, own_int, own_str, b_add, b_sub, k_intI, c_eqI, c_neI, c_lt, c_ge, c_gt, List.length_cons, List.length_nil, List.cons_append, List.nil_append, Nat.zero_add, lim_ok, Nat.reduceAdd, Nat.reduceLeDiff, true_and, ne_eq, reduceCtorEq, not_false_eq_true, and_true, bk_str, List.cons.injEq, Val.int.injEq, wipeE, lock_none, unlock_none, if_T, if_F, Bool.false_eq_true, c_ltI, c_leI, k_sl, k_part, k_pnone, MP.sl_str, tr_bl, k_par2C, g_tp2, tm_join, tm_append, tm_clearL, tm_clearD, tm_extend, tm_pop, tm_get, tm_split, tm_partition, Option.some.injEq, exists_eq_left', exists_eq_left]
    exact hK1 _ _ ⟨x, z - i, rfl, rfl, trivial⟩ (l9.trans l10) (S10.mono (by omega))
  rintro ys h8 ⟨l8, S8, os, ro, rfl⟩
  obtain ⟨W, f1, f2, _⟩ := all2_pairs ro
  have l9 := Fr.unlock l8
  have S9 := Sr.unlock (h1 := h7) (lk := some h5.length) S8 (by rintro k ⟨⟩; exact hp5)
  rw [List.nil_append, f1]
  have A9 := A7.le l9
  have l10 := (l6.trans l7.le).trans l9
  generalize unlockH h7 h8 (some h5.length) = h9 at l10 S9 A9 ⊢
  have hW : (W.map (·.1)).Nodup := by rw [f2]; exact (List.drop_sublist _ _).nodup hnd
  simp -implicitDefEqProofs only [k_asg, k_setE, k_asg2, k_ret, k_expr, k_if, k_nx, k_bk, k_ct, k_var, k_lit, k_bin, k_then, k_bf, k_nil, k_cons, k_f1, k_new, k_al, k_tup, k_lst, k_call, k_and, k_or, k_not, k_ifx, k_tru, k_tcmp, k_tand, k_tor, k_tnot, k_chain, k_tchn, k_ttrue, k_fld, k_make, k_meth, k_bmX, k_sub, k_setF, k_lc, k_dc, k_for, k_ival, k_iitems, k_irng, k_turn, k_dturn, ok_ok, ok_opt, bl_bl, List.getElem?_cons_zero, List.getElem?_cons_succ, Option.join_some, List.set_cons_succ, List.set_cons_zero, own_int, own_str, b_add, b_sub, k_intI, c_eqI, c_neI, c_lt, c_ge, c_gt, List.length_cons, List.length_nil, List.cons_append, List.nil_append, Nat.zero_add, lim_ok, Nat.reduceAdd, Nat.reduceLeDiff, true_and, ne_eq, reduceCtorEq, not_false_eq_true, and_true, bk_str, List.cons.injEq, Val.int.injEq, wipeE, lock_none, unlock_none, if_T, if_F, Bool.false_eq_true, c_ltI, c_leI, k_sl, k_part, k_pnone, MP.sl_str, tr_bl, k_par2C, g_tp2, tm_join, tm_append, tm_clearL, tm_clearD, tm_extend, tm_pop, tm_get, tm_split, tm_partition, Option.some.injEq, exists_eq_left', exists_eq_left, dict_pairs (l := W) (f := Val.int) (rd_new (h := h9) rfl) hW]
  have l11 : Lx h9 (h9 ++ [(false, B.lst (W.map fun p => Val.tup [.str p.1, .int p.2]))] ++ [(false, B.dct (dI W))]) := (Fr.app _ _ _).trans (Fr.app _ _ _)
  refine ⟨na, _, N, W, rfl, A9.lx l11, Aw.new (by simp), e2, f2, e3, l10.trans l11.le, (l11.src S9).mono (by omega)⟩
/-! ### is_right -/
theorem isRight {h : MP.Heap} {tv : Val} {na wa : Nat} {R Kk N W : List (Str × Int)} (hp : 0 < h.length) (t : IsTab 0 h tv R Kk) (A : At h na (.dct (dI N))) (Bw : At h wa (.dct (dI W))) (eR : lessL R = lessL N) (eK : lessL Kk = lessL W)
    (nR : (R.map (·.1)).Nodup) (gN : Good1 N) (gW : Good1 W) (oN : ("nobody" : Str) ∉ N.map (·.1)) (oW : ("nobody" : Str) ∉ W.map (·.1)) : Ok (C wf (d + 2) 19 [tv, .ref na, .ref wa] h) fun v h' => v = .bl true ∧ Lx h h' := by
  have lk1 : ∀ x, look0 R x = look0 N x := fun x => by rw [← lessL_look R, eR, lessL_look]
  have lk2 : ∀ x, look0 Kk x = look0 W x := fun x => by rw [← lessL_look Kk, eK, lessL_look]
  have sN : ∀ x ∈ (lessL N).map (·.1), PyData.strOk x = true := fun x hx => by obtain ⟨p, hp, rfl⟩ := List.mem_map.mp hx; exact nm_strOk (gN.less.nm p hp)
  have sW : ∀ x ∈ (lessL W).map (·.1), PyData.strOk x = true := fun x hx => by obtain ⟨p, hp, rfl⟩ := List.mem_map.mp hx; exact nm_strOk (gW.less.nm p hp)
  have hfN := gN.few
  have hfW := gW.few
  refine ok_run (s := s19 (C wf (d + 1)) wf) fn19 rfl (s19_eq _ wf) ?_
  show OkS (s19 (C wf (d + 1)) wf [some tv, some (.ref na), some (.ref wa), none, none] h) _ _ _ _
  obtain ⟨s, ra, ca, e, a, b, c⟩ := id t
  subst e
  unfold s19
  with_reducible refine k_seqK fun K hK => ?_
  simp -implicitDefEqProofs only [k_asg, k_setE, k_asg2, k_ret, k_expr, k_if, k_nx, k_bk, k_ct, k_var, k_lit, k_bin, k_then, k_bf, k_nil, k_cons, k_f1, k_new, k_al, k_tup, k_lst, k_call, k_and, k_or, k_not, k_ifx, k_tru, k_tcmp, k_tand, k_tor, k_tnot, k_chain, k_tchn, k_ttrue, k_fld, k_make, k_meth, k_bmX, k_sub, k_setF, k_lc, k_dc, k_for, k_ival, k_iitems, k_irng, k_turn, k_dturn, ok_ok, ok_opt, bl_bl, List.getElem?_cons_zero, List.getElem?_cons_succ, Option.join_some, List.set_cons_succ, List.set_cons_zero, own_int, own_str, b_add, b_sub, k_intI, c_eqI, c_neI, c_lt, c_ge, c_gt, List.length_cons, List.length_nil, List.cons_append, List.nil_append, Nat.zero_add, lim_ok, Nat.reduceAdd, Nat.reduceLeDiff, true_and, ne_eq, reduceCtorEq, not_false_eq_true, and_true, bk_str, List.cons.injEq, Val.int.injEq, wipeE, lock_none, unlock_none, if_T, if_F, Bool.false_eq_true, c_ltI, c_leI, k_sl, k_part, k_pnone, MP.sl_str, tr_bl, k_par2C, g_tp2, tm_join, tm_append, tm_clearL, tm_clearD, tm_extend, tm_pop, tm_get, tm_split, tm_partition, Option.some.injEq, exists_eq_left', exists_eq_left, in_of a.2]
  refine ⟨_, cm7 _, nf3 _ _, rfl, (kindsC (wf := wf) (d := d) t).imp ?_⟩
  rintro v h1 ⟨rfl, rfl⟩
  have l1 : Lx h (h ++ [(false, B.lst (((lessL R).map (·.1)).map Val.str))]) := Fr.app _ _ _
  have A1' : At (h ++ [(false, B.lst (((lessL R).map (·.1)).map Val.str))]) h.length (.lst (((lessL R).map (·.1)).map Val.str)) := ⟨hp, rd_new rfl⟩
  generalize h ++ [(false, B.lst (((lessL R).map (·.1)).map Val.str))] = h1 at l1 A1' ⊢
  try simp -implicitDefEqProofs only [k_asg, k_setE, k_asg2, k_ret, k_expr, k_if, k_nx, k_bk, k_ct, k_var, k_lit, k_bin, k_then, k_bf, k_nil, k_cons, k_f1, k_new, k_al, k_tup, k_lst, k_call, k_and, k_or, k_not, k_ifx, k_tru, k_tcmp, k_tand, k_tor, k_tnot, k_chain, k_tchn, k_ttrue, k_fld, k_make, k_meth, k_bmX, k_sub, k_setF, k_lc, k_dc, k_for, k_ival, k_iitems, k_irng, k_turn, k_dturn, ok_ok, ok_opt, bl_bl, List.getElem?_cons_zero, List.getElem?_cons_succ, Option.join_some, List.set_cons_succ, List.set_cons_zero, own_int, own_str, b_add, b_sub, k_intI, c_eqI, c_neI, c_lt, c_ge, c_gt, List.length_cons, List.length_nil, List.cons_append, List.nil_append, Nat.zero_add, lim_ok, Nat.reduceAdd, Nat.reduceLeDiff, true_and, ne_eq, reduceCtorEq, not_false_eq_true, and_true, bk_str, List.cons.injEq, Val.int.injEq, wipeE, lock_none, unlock_none, if_T, if_F, Bool.false_eq_true, c_ltI, c_leI, k_sl, k_part, k_pnone, MP.sl_str, tr_bl, k_par2C, g_tp2, tm_join, tm_append, tm_clearL, tm_clearD, tm_extend, tm_pop, tm_get, tm_split, tm_partition, Option.some.injEq, exists_eq_left', exists_eq_left]
  refine (lawLess (wf := wf) (d := d) h1 na N (Nat.lt_of_lt_of_le hp l1.len) (A.lx l1) gN.nd (by omega)).imp ?_
  rintro v h2 ⟨b2, rfl, _, w2, l2⟩
  simp -implicitDefEqProofs only [k_asg, k_setE, k_asg2, k_ret, k_expr, k_if, k_nx, k_bk, k_ct, k_var, k_lit, k_bin, k_then, k_bf, k_nil, k_cons, k_f1, k_new, k_al, k_tup, k_lst, k_call, k_and, k_or, k_not, k_ifx, k_tru, k_tcmp, k_tand, k_tor, k_tnot, k_chain, k_tchn, k_ttrue, k_fld, k_make, k_meth, k_bmX, k_sub, k_setF, k_lc, k_dc, k_for, k_ival, k_iitems, k_irng, k_turn, k_dturn, ok_ok, ok_opt, bl_bl, List.getElem?_cons_zero, List.getElem?_cons_succ, Option.join_some, List.set_cons_succ, List.set_cons_zero, own_int, own_str, b_add, b_sub, k_intI, c_eqI, c_neI, c_lt, c_ge, c_gt, List.length_cons, List.length_nil, List.cons_append, List.nil_append, Nat.zero_add, lim_ok, Nat.reduceAdd, Nat.reduceLeDiff, true_and, ne_eq, reduceCtorEq, not_false_eq_true, and_true, bk_str, List.cons.injEq, Val.int.injEq, wipeE, lock_none, unlock_none, if_T, if_F, Bool.false_eq_true, c_ltI, c_leI, k_sl, k_part, k_pnone, MP.sl_str, tr_bl, k_par2C, g_tp2, tm_join, tm_append, tm_clearL, tm_clearD, tm_extend, tm_pop, tm_get, tm_split, tm_partition, Option.some.injEq, exists_eq_left', exists_eq_left, list_dct w2.at.2]
  have l3 : Lx h2 (h2 ++ [(false, B.lst (((lessL N).map (·.1)).map Val.str))]) := Fr.app _ _ _
  rw [ne_strs (((A1'.lx l2).lx l3).2) (rd_new rfl) (by rw [eR]; exact sN) sN, eR, decide_eq_true rfl]
  have l4 := (l1.trans l2).trans l3
  generalize h2 ++ [(false, B.lst (((lessL N).map (·.1)).map Val.str))] = h4 at l4 ⊢
  clear l1 l2 l3 A1' w2
  simp -implicitDefEqProofs only [k_asg, k_setE, k_asg2, k_ret, k_expr, k_if, k_nx, k_bk, k_ct, k_var, k_lit, k_bin, k_then, k_bf, k_nil, k_cons, k_f1, k_new, k_al, k_tup, k_lst, k_call, k_and, k_or, k_not, k_ifx, k_tru, k_tcmp, k_tand, k_tor, k_tnot, k_chain, k_tchn, k_ttrue, k_fld, k_make, k_meth, k_bmX, k_sub, k_setF, k_lc, k_dc, k_for, k_ival, k_iitems, k_irng, k_turn, k_dturn, ok_ok, ok_opt, bl_bl, List.getElem?_cons_zero, List.getElem?_cons_succ, Option.join_some, List.set_cons_succ, List.set_cons_zero, own_int, own_str, b_add, b_sub, k_intI, c_eqI, c_neI, c_lt, c_ge, c_gt, List.length_cons, List.length_nil, List.cons_append, List.nil_append, Nat.zero_add, lim_ok, Nat.reduceAdd, Nat.reduceLeDiff, true_and, ne_eq, reduceCtorEq, not_false_eq_true, and_true, bk_str, List.cons.injEq, Val.int.injEq, wipeE, lock_none, unlock_none, if_T, if_F, Bool.false_eq_true, c_ltI, c_leI, k_sl, k_part, k_pnone, MP.sl_str, tr_bl, k_par2C, g_tp2, tm_join, tm_append, tm_clearL, tm_clearD, tm_extend, tm_pop, tm_get, tm_split, tm_partition, Option.some.injEq, exists_eq_left', exists_eq_left, Bool.not_true, in_of (a.lx l4).2]
  refine ⟨_, cm8 _, nf4 _ _, rfl, (ctrsC (wf := wf) (d := d) (t.le l4.le)).imp ?_⟩
  rintro v h5 ⟨rfl, rfl⟩
  have hp4 := Nat.lt_of_lt_of_le hp l4.len
  have l1 : Lx h4 (h4 ++ [(false, B.lst (((lessL Kk).map (·.1)).map Val.str))]) := Fr.app _ _ _
  have A1' : At (h4 ++ [(false, B.lst (((lessL Kk).map (·.1)).map Val.str))]) h4.length (.lst (((lessL Kk).map (·.1)).map Val.str)) := ⟨hp4, rd_new rfl⟩
  generalize h4 ++ [(false, B.lst (((lessL Kk).map (·.1)).map Val.str))] = h5 at l1 A1' ⊢
  try simp -implicitDefEqProofs only [k_asg, k_setE, k_asg2, k_ret, k_expr, k_if, k_nx, k_bk, k_ct, k_var, k_lit, k_bin, k_then, k_bf, k_nil, k_cons, k_f1, k_new, k_al, k_tup, k_lst, k_call, k_and, k_or, k_not, k_ifx, k_tru, k_tcmp, k_tand, k_tor, k_tnot, k_chain, k_tchn, k_ttrue, k_fld, k_make, k_meth, k_bmX, k_sub, k_setF, k_lc, k_dc, k_for, k_ival, k_iitems, k_irng, k_turn, k_dturn, ok_ok, ok_opt, bl_bl, List.getElem?_cons_zero, List.getElem?_cons_succ, Option.join_some, List.set_cons_succ, List.set_cons_zero, own_int, own_str, b_add, b_sub, k_intI, c_eqI, c_neI, c_lt, c_ge, c_gt, List.length_cons, List.length_nil, List.cons_append, List.nil_append, Nat.zero_add, lim_ok, Nat.reduceAdd, Nat.reduceLeDiff, true_and, ne_eq, reduceCtorEq, not_false_eq_true, and_true, bk_str, List.cons.injEq, Val.int.injEq, wipeE, lock_none, unlock_none, if_T, if_F, Bool.false_eq_true, c_ltI, c_leI, k_sl, k_part, k_pnone, MP.sl_str, tr_bl, k_par2C, g_tp2, tm_join, tm_append, tm_clearL, tm_clearD, tm_extend, tm_pop, tm_get, tm_split, tm_partition, Option.some.injEq, exists_eq_left', exists_eq_left]
  refine (lawLess (wf := wf) (d := d) h5 wa W (Nat.lt_of_lt_of_le hp4 l1.len) ((Bw.lx l4).lx l1) gW.nd (by omega)).imp ?_
  rintro v h6 ⟨b6, rfl, _, w6, l6⟩
  simp -implicitDefEqProofs only [k_asg, k_setE, k_asg2, k_ret, k_expr, k_if, k_nx, k_bk, k_ct, k_var, k_lit, k_bin, k_then, k_bf, k_nil, k_cons, k_f1, k_new, k_al, k_tup, k_lst, k_call, k_and, k_or, k_not, k_ifx, k_tru, k_tcmp, k_tand, k_tor, k_tnot, k_chain, k_tchn, k_ttrue, k_fld, k_make, k_meth, k_bmX, k_sub, k_setF, k_lc, k_dc, k_for, k_ival, k_iitems, k_irng, k_turn, k_dturn, ok_ok, ok_opt, bl_bl, List.getElem?_cons_zero, List.getElem?_cons_succ, Option.join_some, List.set_cons_succ, List.set_cons_zero, own_int, own_str, b_add, b_sub, k_intI, c_eqI, c_neI, c_lt, c_ge, c_gt, List.length_cons, List.length_nil, List.cons_append, List.nil_append, Nat.zero_add, lim_ok, Nat.reduceAdd, Nat.reduceLeDiff, true_and, ne_eq, reduceCtorEq, not_false_eq_true, and_true, bk_str, List.cons.injEq, Val.int.injEq, wipeE, lock_none, unlock_none, if_T, if_F, Bool.false_eq_true, c_ltI, c_leI, k_sl, k_part, k_pnone, MP.sl_str, tr_bl, k_par2C, g_tp2, tm_join, tm_append, tm_clearL, tm_clearD, tm_extend, tm_pop, tm_get, tm_split, tm_partition, Option.some.injEq, exists_eq_left', exists_eq_left, list_dct w6.at.2]
  have l7 : Lx h6 (h6 ++ [(false, B.lst (((lessL W).map (·.1)).map Val.str))]) := Fr.app _ _ _
  rw [ne_strs (((A1'.lx l6).lx l7).2) (rd_new rfl) (by rw [eK]; exact sW) sW, eK, decide_eq_true rfl]
  have l8 := ((l4.trans l1).trans l6).trans l7
  generalize h6 ++ [(false, B.lst (((lessL W).map (·.1)).map Val.str))] = h8 at l8 ⊢
  clear l1 l6 l7 A1' w6 l4
  simp -implicitDefEqProofs only [k_asg, k_setE, k_asg2, k_ret, k_expr, k_if, k_nx, k_bk, k_ct, k_var, k_lit, k_bin, k_then, k_bf, k_nil, k_cons, k_f1, k_new, k_al, k_tup, k_lst, k_call, k_and, k_or, k_not, k_ifx, k_tru, k_tcmp, k_tand, k_tor, k_tnot, k_chain, k_tchn, k_ttrue, k_fld, k_make, k_meth, k_bmX, k_sub, k_setF, k_lc, k_dc, k_for, k_ival, k_iitems, k_irng, k_turn, k_dturn, ok_ok, ok_opt, bl_bl, List.getElem?_cons_zero, List.getElem?_cons_succ, Option.join_some, List.set_cons_succ, List.set_cons_zero, own_int, own_str, b_add, b_sub, k_intI, c_eqI, c_neI, c_lt, c_ge, c_gt, List.length_cons, List.length_nil, List.cons_append, List.nil_append, Nat.zero_add, lim_ok, Nat.reduceAdd, Nat.reduceLeDiff, true_and, ne_eq, reduceCtorEq, not_false_eq_true, and_true, bk_str, List.cons.injEq, Val.int.injEq, wipeE, lock_none, unlock_none, if_T, if_F, Bool.false_eq_true, c_ltI, c_leI, k_sl, k_part, k_pnone, MP.sl_str, tr_bl, k_par2C, g_tp2, tm_join, tm_append, tm_clearL, tm_clearD, tm_extend, tm_pop, tm_get, tm_split, tm_partition, Option.some.injEq, exists_eq_left', exists_eq_left, Bool.not_true]
  refine hK _ _ ?_
  clear hK K
  -- any
  have anyT : ∀ (g : MP.Heap) (f : Val → MP.Heap → Rs (Option Val)) (ks : List Str) (lk : Option Nat) (Q : Val → MP.Heap → Prop), (∀ x ∈ ks, ∀ h1, Lx (lockH g lk) h1 → ∀ K : Option Val → MP.Heap → Prop, (∀ h2, Lx h1 h2 → K (some (.bl false)) h2) → Ok (f (.str x) h1) K) →
      (∀ h', Lx g h' → Q (.bl false) h') → Ok (lcGo f (ks.map Val.str) [] (lockH g lk)) fun ys h2 => Ok (anyV (.ref (unlockH g h2 lk).length) (unlockH g h2 lk ++ [(false, B.lst ys)])) Q := by
    intro g f ks lk Q hf hQ
    refine (lc_funK (fun _ => some (.bl false)) _ [] _ ?_).imp ?_
    · intro v hv h1 l1 K1 hK1
      obtain ⟨x, hx, rfl⟩ := List.mem_map.mp hv
      exact hf x hx h1 l1 K1 hK1
    · rintro ys h2 ⟨l2, rfl⟩
      have l3 := Fr.unlock l2
      generalize unlockH g h2 lk = h3 at l3 ⊢
      have e : (ks.map Val.str).filterMap (fun _ => some (Val.bl false)) = (List.replicate ks.length false).map Val.bl := by
        clear hf
        induction ks with
        | nil => rfl
        | cons k ks ih => rw [List.map_cons, List.filterMap_cons, ih]; rfl
      rw [List.nil_append, e, any_lst (rd_new rfl), ok_ok]
      rw [show (List.replicate ks.length false).any id = false by rw [List.any_replicate]; split <;> rfl]
      exact hQ _ (l3.trans (Fr.app _ _ _))
  with_reducible refine k_seqK fun K hK => ?_
  simp -implicitDefEqProofs only [k_asg, k_setE, k_asg2, k_ret, k_expr, k_if, k_nx, k_bk, k_ct, k_var, k_lit, k_bin, k_then, k_bf, k_nil, k_cons, k_f1, k_new, k_al, k_tup, k_lst, k_call, k_and, k_or, k_not, k_ifx, k_tru, k_tcmp, k_tand, k_tor, k_tnot, k_chain, k_tchn, k_ttrue, k_fld, k_make, k_meth, k_bmX, k_sub, k_setF, k_lc, k_dc, k_for, k_ival, k_iitems, k_irng, k_turn, k_dturn, ok_ok, ok_opt, bl_bl, List.getElem?_cons_zero, List.getElem?_cons_succ, Option.join_some, List.set_cons_succ, List.set_cons_zero, own_int, own_str, b_add, b_sub, k_intI, c_eqI, c_neI, c_lt, c_ge, c_gt, List.length_cons, List.length_nil, List.cons_append, List.nil_append, Nat.zero_add, lim_ok, Nat.reduceAdd, Nat.reduceLeDiff, true_and, ne_eq, reduceCtorEq, not_false_eq_true, and_true, bk_str, List.cons.injEq, Val.int.injEq, wipeE, lock_none, unlock_none, if_T, if_F, Bool.false_eq_true, c_ltI, c_leI, k_sl, k_part, k_pnone, MP.sl_str, tr_bl, k_par2C, g_tp2, tm_join, tm_append, tm_clearL, tm_clearD, tm_extend, tm_pop, tm_get, tm_split, tm_partition, Option.some.injEq, exists_eq_left', exists_eq_left, src_dct (A.lx l8).2, vkeys_dS]
  refine ⟨by rw [List.length_map, List.length_map]; exact le_lim (by omega), ?_⟩
  refine anyT _ _ _ _ _ ?_ ?_
  · intro x hx h1 l1 K1 hK1
    have t1 := ((t.le l8.le).lock (some na)).le (Fr.le l1)
    have A1 := ((A.lx l8).lock (some na)).lx l1
    have a1 := ((a.lx l8).lock (some na)).lx l1
    simp -implicitDefEqProofs only [k_asg, k_setE, k_asg2, k_ret, k_expr, k_if, k_nx, k_bk, k_ct, k_var, k_lit, k_bin, k_then, k_bf, k_nil, k_cons, k_f1, k_new, k_al, k_tup, k_lst, k_call, k_and, k_or, k_not, k_ifx, k_tru, k_tcmp, k_tand, k_tor, k_tnot, k_chain, k_tchn, k_ttrue, k_fld, k_make, k_meth, k_bmX, k_sub, k_setF, k_lc, k_dc, k_for, k_ival, k_iitems, k_irng, k_turn, k_dturn, ok_ok, ok_opt, bl_bl, List.getElem?_cons_zero, List.getElem?_cons_succ, Option.join_some, List.set_cons_succ, List.set_cons_zero, own_int, own_str, b_add, b_sub, k_intI, c_eqI, c_neI, c_lt, c_ge, c_gt, List.length_cons, List.length_nil, List.cons_append, List.nil_append, Nat.zero_add, lim_ok, Nat.reduceAdd, Nat.reduceLeDiff, true_and, ne_eq, reduceCtorEq, not_false_eq_true, and_true, bk_str, List.cons.injEq, Val.int.injEq, wipeE, lock_none, unlock_none, if_T, if_F, Bool.false_eq_true, c_ltI, c_leI, k_sl, k_part, k_pnone, MP.sl_str, tr_bl, k_par2C, g_tp2, tm_join, tm_append, tm_clearL, tm_clearD, tm_extend, tm_pop, tm_get, tm_split, tm_partition, Option.some.injEq, exists_eq_left', exists_eq_left, in_of a1.2]
    refine ⟨_, cm5 _, nf1 _ _, rfl, (rowsC (wf := wf) (d := d) t1).imp ?_⟩
    rintro v h2 ⟨rfl, rfl⟩
    simp -implicitDefEqProofs only [k_asg, k_setE, k_asg2, k_ret, k_expr, k_if, k_nx, k_bk, k_ct, k_var, k_lit, k_bin, k_then, k_bf, k_nil, k_cons, k_f1, k_new, k_al, k_tup, k_lst, k_call, k_and, k_or, k_not, k_ifx, k_tru, k_tcmp, k_tand, k_tor, k_tnot, k_chain, k_tchn, k_ttrue, k_fld, k_make, k_meth, k_bmX, k_sub, k_setF, k_lc, k_dc, k_for, k_ival, k_iitems, k_irng, k_turn, k_dturn, ok_ok, ok_opt, bl_bl, List.getElem?_cons_zero, List.getElem?_cons_succ, Option.join_some, List.set_cons_succ, List.set_cons_zero, own_int, own_str, b_add, b_sub, k_intI, c_eqI, c_neI, c_lt, c_ge, c_gt, List.length_cons, List.length_nil, List.cons_append, List.nil_append, Nat.zero_add, lim_ok, Nat.reduceAdd, Nat.reduceLeDiff, true_and, ne_eq, reduceCtorEq, not_false_eq_true, and_true, bk_str, List.cons.injEq, Val.int.injEq, wipeE, lock_none, unlock_none, if_T, if_F, Bool.false_eq_true, c_ltI, c_leI, k_sl, k_part, k_pnone, MP.sl_str, tr_bl, k_par2C, g_tp2, tm_join, tm_append, tm_clearL, tm_clearD, tm_extend, tm_pop, tm_get, tm_split, tm_partition, Option.some.injEq, exists_eq_left', exists_eq_left, ix_dct A1.2, look_dS, look_in hx, Option.map_some]
    rw [lk1, show (look0 N x != look0 N x) = false by simp]
    exact hK1 _ (Fr.refl _ _)
  intro h9 l9
  have l10 := l8.trans l9
  simp -implicitDefEqProofs only [k_asg, k_setE, k_asg2, k_ret, k_expr, k_if, k_nx, k_bk, k_ct, k_var, k_lit, k_bin, k_then, k_bf, k_nil, k_cons, k_f1, k_new, k_al, k_tup, k_lst, k_call, k_and, k_or, k_not, k_ifx, k_tru, k_tcmp, k_tand, k_tor, k_tnot, k_chain, k_tchn, k_ttrue, k_fld, k_make, k_meth, k_bmX, k_sub, k_setF, k_lc, k_dc, k_for, k_ival, k_iitems, k_irng, k_turn, k_dturn, ok_ok, ok_opt, bl_bl, List.getElem?_cons_zero, List.getElem?_cons_succ, Option.join_some, List.set_cons_succ, List.set_cons_zero, own_int, own_str, b_add, b_sub, k_intI, c_eqI, c_neI, c_lt, c_ge, c_gt, List.length_cons, List.length_nil, List.cons_append, List.nil_append, Nat.zero_add, lim_ok, Nat.reduceAdd, Nat.reduceLeDiff, true_and, ne_eq, reduceCtorEq, not_false_eq_true, and_true, bk_str, List.cons.injEq, Val.int.injEq, wipeE, lock_none, unlock_none, if_T, if_F, Bool.false_eq_true, c_ltI, c_leI, k_sl, k_part, k_pnone, MP.sl_str, tr_bl, k_par2C, g_tp2, tm_join, tm_append, tm_clearL, tm_clearD, tm_extend, tm_pop, tm_get, tm_split, tm_partition, Option.some.injEq, exists_eq_left', exists_eq_left]
  refine hK _ _ ?_
  clear hK K l8 l9
  with_reducible refine k_seqK fun K hK => ?_
  simp -implicitDefEqProofs only [k_asg, k_setE, k_asg2, k_ret, k_expr, k_if, k_nx, k_bk, k_ct, k_var, k_lit, k_bin, k_then, k_bf, k_nil, k_cons, k_f1, k_new, k_al, k_tup, k_lst, k_call, k_and, k_or, k_not, k_ifx, k_tru, k_tcmp, k_tand, k_tor, k_tnot, k_chain, k_tchn, k_ttrue, k_fld, k_make, k_meth, k_bmX, k_sub, k_setF, k_lc, k_dc, k_for, k_ival, k_iitems, k_irng, k_turn, k_dturn, ok_ok, ok_opt, bl_bl, List.getElem?_cons_zero, List.getElem?_cons_succ, Option.join_some, List.set_cons_succ, List.set_cons_zero, own_int, own_str, b_add, b_sub, k_intI, c_eqI, c_neI, c_lt, c_ge, c_gt, List.length_cons, List.length_nil, List.cons_append, List.nil_append, Nat.zero_add, lim_ok, Nat.reduceAdd, Nat.reduceLeDiff, true_and, ne_eq, reduceCtorEq, not_false_eq_true, and_true, bk_str, List.cons.injEq, Val.int.injEq, wipeE, lock_none, unlock_none, if_T, if_F, Bool.false_eq_true, c_ltI, c_leI, k_sl, k_part, k_pnone, MP.sl_str, tr_bl, k_par2C, g_tp2, tm_join, tm_append, tm_clearL, tm_clearD, tm_extend, tm_pop, tm_get, tm_split, tm_partition, Option.some.injEq, exists_eq_left', exists_eq_left, src_dct (Bw.lx l10).2, vkeys_dS]
  refine ⟨by rw [List.length_map, List.length_map]; exact le_lim (by omega), ?_⟩
  refine anyT _ _ _ _ _ ?_ ?_
  · intro x hx h1 l1 K1 hK1
    have t1 := ((t.le l10.le).lock (some wa)).le (Fr.le l1)
    have A1 := ((Bw.lx l10).lock (some wa)).lx l1
    have a1 := ((a.lx l10).lock (some wa)).lx l1
    simp -implicitDefEqProofs only [k_asg, k_setE, k_asg2, k_ret, k_expr, k_if, k_nx, k_bk, k_ct, k_var, k_lit, k_bin, k_then, k_bf, k_nil, k_cons, k_f1, k_new, k_al, k_tup, k_lst, k_call, k_and, k_or, k_not, k_ifx, k_tru, k_tcmp, k_tand, k_tor, k_tnot, k_chain, k_tchn, k_ttrue, k_fld, k_make, k_meth, k_bmX, k_sub, k_setF, k_lc, k_dc, k_for, k_ival, k_iitems, k_irng, k_turn, k_dturn, ok_ok, ok_opt, bl_bl, List.getElem?_cons_zero, List.getElem?_cons_succ, Option.join_some, List.set_cons_succ, List.set_cons_zero, own_int, own_str, b_add, b_sub, k_intI, c_eqI, c_neI, c_lt, c_ge, c_gt, List.length_cons, List.length_nil, List.cons_append, List.nil_append, Nat.zero_add, lim_ok, Nat.reduceAdd, Nat.reduceLeDiff, true_and, ne_eq, reduceCtorEq, not_false_eq_true, and_true, bk_str, List.cons.injEq, Val.int.injEq, wipeE, lock_none, unlock_none, if_T, if_F, Bool.false_eq_true, c_ltI, c_leI, k_sl, k_part, k_pnone, MP.sl_str, tr_bl, k_par2C, g_tp2, tm_join, tm_append, tm_clearL, tm_clearD, tm_extend, tm_pop, tm_get, tm_split, tm_partition, Option.some.injEq, exists_eq_left', exists_eq_left, in_of a1.2]
    refine ⟨_, cm6 _, nf2 _ _, rfl, (worthC (wf := wf) (d := d) t1).imp ?_⟩
    rintro v h2 ⟨rfl, rfl⟩
    simp -implicitDefEqProofs only [k_asg, k_setE, k_asg2, k_ret, k_expr, k_if, k_nx, k_bk, k_ct, k_var, k_lit, k_bin, k_then, k_bf, k_nil, k_cons, k_f1, k_new, k_al, k_tup, k_lst, k_call, k_and, k_or, k_not, k_ifx, k_tru, k_tcmp, k_tand, k_tor, k_tnot, k_chain, k_tchn, k_ttrue, k_fld, k_make, k_meth, k_bmX, k_sub, k_setF, k_lc, k_dc, k_for, k_ival, k_iitems, k_irng, k_turn, k_dturn, ok_ok, ok_opt, bl_bl, List.getElem?_cons_zero, List.getElem?_cons_succ, Option.join_some, List.set_cons_succ, List.set_cons_zero, own_int, own_str, b_add, b_sub, k_intI, c_eqI, c_neI, c_lt, c_ge, c_gt, List.length_cons, List.length_nil, List.cons_append, List.nil_append, Nat.zero_add, lim_ok, Nat.reduceAdd, Nat.reduceLeDiff, true_and, ne_eq, reduceCtorEq, not_false_eq_true, and_true, bk_str, List.cons.injEq, Val.int.injEq, wipeE, lock_none, unlock_none, if_T, if_F, Bool.false_eq_true, c_ltI, c_leI, k_sl, k_part, k_pnone, MP.sl_str, tr_bl, k_par2C, g_tp2, tm_join, tm_append, tm_clearL, tm_clearD, tm_extend, tm_pop, tm_get, tm_split, tm_partition, Option.some.injEq, exists_eq_left', exists_eq_left, ix_dct A1.2, look_dS, look_in hx, Option.map_some]
    rw [lk2, show (look0 W x != look0 W x) = false by simp]
    exact hK1 _ (Fr.refl _ _)
  intro h11 l11
  have l12 := l10.trans l11
  simp -implicitDefEqProofs only [k_asg, k_setE, k_asg2, k_ret, k_expr, k_if, k_nx, k_bk, k_ct, k_var, k_lit, k_bin, k_then, k_bf, k_nil, k_cons, k_f1, k_new, k_al, k_tup, k_lst, k_call, k_and, k_or, k_not, k_ifx, k_tru, k_tcmp, k_tand, k_tor, k_tnot, k_chain, k_tchn, k_ttrue, k_fld, k_make, k_meth, k_bmX, k_sub, k_setF, k_lc, k_dc, k_for, k_ival, k_iitems, k_irng, k_turn, k_dturn, ok_ok, ok_opt, bl_bl, List.getElem?_cons_zero, List.getElem?_cons_succ, Option.join_some, List.set_cons_succ, List.set_cons_zero, own_int, own_str, b_add, b_sub, k_intI, c_eqI, c_neI, c_lt, c_ge, c_gt, List.length_cons, List.length_nil, List.cons_append, List.nil_append, Nat.zero_add, lim_ok, Nat.reduceAdd, Nat.reduceLeDiff, true_and, ne_eq, reduceCtorEq, not_false_eq_true, and_true, bk_str, List.cons.injEq, Val.int.injEq, wipeE, lock_none, unlock_none, if_T, if_F, Bool.false_eq_true, c_ltI, c_leI, k_sl, k_part, k_pnone, MP.sl_str, tr_bl, k_par2C, g_tp2, tm_join, tm_append, tm_clearL, tm_clearD, tm_extend, tm_pop, tm_get, tm_split, tm_partition, Option.some.injEq, exists_eq_left', exists_eq_left]
  refine hK _ _ ?_
  clear hK K l10 l11 anyT
  -- odd ones
  with_reducible refine k_seqK fun K hK => ?_
  simp -implicitDefEqProofs only [k_asg, k_setE, k_asg2, k_ret, k_expr, k_if, k_nx, k_bk, k_ct, k_var, k_lit, k_bin, k_then, k_bf, k_nil, k_cons, k_f1, k_new, k_al, k_tup, k_lst, k_call, k_and, k_or, k_not, k_ifx, k_tru, k_tcmp, k_tand, k_tor, k_tnot, k_chain, k_tchn, k_ttrue, k_fld, k_make, k_meth, k_bmX, k_sub, k_setF, k_lc, k_dc, k_for, k_ival, k_iitems, k_irng, k_turn, k_dturn, ok_ok, ok_opt, bl_bl, List.getElem?_cons_zero, List.getElem?_cons_succ, Option.join_some, List.set_cons_succ, List.set_cons_zero, own_int, own_str, b_add, b_sub, k_intI, c_eqI, c_neI, c_lt, c_ge, c_gt, List.length_cons, List.length_nil, List.cons_append, List.nil_append, Nat.zero_add, lim_ok, Nat.reduceAdd, Nat.reduceLeDiff, true_and, ne_eq, reduceCtorEq, not_false_eq_true, and_true, bk_str, List.cons.injEq, Val.int.injEq, wipeE, lock_none, unlock_none, if_T, if_F, Bool.false_eq_true, c_ltI, c_leI, k_sl, k_part, k_pnone, MP.sl_str, tr_bl, k_par2C, g_tp2, tm_join, tm_append, tm_clearL, tm_clearD, tm_extend, tm_pop, tm_get, tm_split, tm_partition, Option.some.injEq, exists_eq_left', exists_eq_left]
  have hp11 : 0 < h11.length := Nat.lt_of_lt_of_le hp l12.len
  have m1 : Lx h11 (h11 ++ [(false, B.lst [Val.str (Str.ofString "a")])]) := Fr.app _ _ _
  have m2 : Lx (h11 ++ [(false, B.lst [Val.str (Str.ofString "a")])]) (h11 ++ [(false, B.lst [Val.str (Str.ofString "a")])] ++ [(false, B.dct [])]) := Fr.app _ _ _
  have P : At (h11 ++ [(false, B.lst [Val.str (Str.ofString "a")])] ++ [(false, B.dct [])]) h11.length (.lst [Val.str (Str.ofString "a")]) := ((Aw.new hp11).lx m2).at
  have P' : At (h11 ++ [(false, B.lst [Val.str (Str.ofString "a")])] ++ [(false, B.dct [])]) (h11 ++ [(false, B.lst [Val.str (Str.ofString "a")])]).length (.dct []) := (Aw.new (by simp)).at
  have l13 := l12.trans (m1.trans m2)
  generalize (h11 ++ [(false, B.lst [Val.str (Str.ofString "a")])]).length = p2 at P' ⊢
  generalize h11 ++ [(false, B.lst [Val.str (Str.ofString "a")])] ++ [(false, B.dct [])] = g at P P' l13 ⊢
  generalize h11.length = p1 at P ⊢
  have m3 : Lx g (g ++ [(false, B.lst [Val.str (Str.ofString "nobody"), Val.non, Val.int 5, Val.tup [Val.str (Str.ofString "a")], Val.ref p1, Val.ref p2])]) := Fr.app _ _ _
  simp -implicitDefEqProofs only [k_asg, k_setE, k_asg2, k_ret, k_expr, k_if, k_nx, k_bk, k_ct, k_var, k_lit, k_bin, k_then, k_bf, k_nil, k_cons, k_f1, k_new, k_al, k_tup, k_lst, k_call, k_and, k_or, k_not, k_ifx, k_tru, k_tcmp, k_tand, k_tor, k_tnot, k_chain, k_tchn, k_ttrue, k_fld, k_make, k_meth, k_bmX, k_sub, k_setF, k_lc, k_dc, k_for, k_ival, k_iitems, k_irng, k_turn, k_dturn, ok_ok, ok_opt, bl_bl, List.getElem?_cons_zero, List.getElem?_cons_succ, Option.join_some, List.set_cons_succ, List.set_cons_zero, own_int, own_str, b_add, b_sub, k_intI, c_eqI, c_neI, c_lt, c_ge, c_gt, List.length_cons, List.length_nil, List.cons_append, List.nil_append, Nat.zero_add, lim_ok, Nat.reduceAdd, Nat.reduceLeDiff, true_and, ne_eq, reduceCtorEq, not_false_eq_true, and_true, bk_str, List.cons.injEq, Val.int.injEq, wipeE, lock_none, unlock_none, if_T, if_F, Bool.false_eq_true, c_ltI, c_leI, k_sl, k_part, k_pnone, MP.sl_str, tr_bl, k_par2C, g_tp2, tm_join, tm_append, tm_clearL, tm_clearD, tm_extend, tm_pop, tm_get, tm_split, tm_partition, Option.some.injEq, exists_eq_left', exists_eq_left, src_lst (rd_new (h := g) rfl)]
  have l14 := l13.trans m3
  have P3 := P.lx m3
  have P3' := P'.lx m3
  generalize g ++ [(false, B.lst [Val.str (Str.ofString "nobody"), Val.non, Val.int 5, Val.tup [Val.str (Str.ofString "a")], Val.ref p1, Val.ref p2])] = g2 at P3 P3' l14 ⊢
  refine for_invK (fun xs env h' => (∀ v ∈ xs, v = Val.str "nobody" ∨ ∃ t, D.tb.tt t (.b "str") = some false ∧ ∀ h', Lx (lockH g2 (some g.length)) h' → tyOf v h' = some t) ∧ (∃ o, env = [some (.ref s), some (.ref na), some (.ref wa), none, o]) ∧ Lx (lockH g2 (some g.length)) h') _ _ _ ?_ ?_ ?_
  · refine ⟨fun v hv => ?_, ⟨_, rfl⟩, Fr.refl _ _⟩
    simp only [List.mem_cons, List.not_mem_nil, or_false] at hv
    rcases hv with rfl | rfl | rfl | rfl | rfl | rfl
    · exact .inl rfl
    · exact .inr ⟨.b "NoneType", by kernel_rfl, fun _ _ => rfl⟩
    · exact .inr ⟨.b "int", by kernel_rfl, fun _ _ => rfl⟩
    · exact .inr ⟨.b "tuple", by kernel_rfl, fun _ _ => rfl⟩
    · exact .inr ⟨.b "list", by kernel_rfl, fun h' l' => by unfold tyOf; simp only [((P3.lock (some g.length)).lx l').2]⟩
    · exact .inr ⟨.b "dict", by kernel_rfl, fun h' l' => by unfold tyOf; simp only [((P3'.lock (some g.length)).lx l').2]⟩
  · rintro v r env h1 ⟨hv, ⟨o, rfl⟩, l1⟩ K1 hK1
    have hnext : K1 [some (.ref s), some (.ref na), some (.ref wa), none, some v] h1 := hK1 _ _ ⟨fun u hu => hv u (List.mem_cons_of_mem _ hu), ⟨_, rfl⟩, l1⟩
    simp -implicitDefEqProofs only [okS_lift]
    show OkS (sSeq _ _ [some (.ref s), some (.ref na), some (.ref wa), none, some v] h1) _ _ _ _
    have a1 := ((a.lx l14).lock (some g.length)).lx l1
    have t1 := ((t.le l14.le).lock (some g.length)).le (Fr.le l1)
    simp -implicitDefEqProofs only [k_asg, k_setE, k_asg2, k_ret, k_expr, k_if, k_nx, k_bk, k_ct, k_var, k_lit, k_bin, k_then, k_bf, k_nil, k_cons, k_f1, k_new, k_al, k_tup, k_lst, k_call, k_and, k_or, k_not, k_ifx, k_tru, k_tcmp, k_tand, k_tor, k_tnot, k_chain, k_tchn, k_ttrue, k_fld, k_make, k_meth, k_bmX, k_sub, k_setF, k_lc, k_dc, k_for, k_ival, k_iitems, k_irng, k_turn, k_dturn, ok_ok, ok_opt, bl_bl, List.getElem?_cons_zero, List.getElem?_cons_succ, Option.join_some, List.set_cons_succ, List.set_cons_zero, own_int, own_str, b_add, b_sub, k_intI, c_eqI, c_neI, c_lt, c_ge, c_gt, List.length_cons, List.length_nil, List.cons_append, List.nil_append, Nat.zero_add, lim_ok, Nat.reduceAdd, Nat.reduceLeDiff, true_and, ne_eq, reduceCtorEq, not_false_eq_true, and_true, bk_str, List.cons.injEq, Val.int.injEq, wipeE, lock_none, unlock_none, if_T, if_F, Bool.false_eq_true, c_ltI, c_leI, k_sl, k_part, k_pnone, MP.sl_str, tr_bl, k_par2C, g_tp2, tm_join, tm_append, tm_clearL, tm_clearD, tm_extend, tm_pop, tm_get, tm_split, tm_partition, Option.some.injEq, exists_eq_left', exists_eq_left, k_seq, in_of a1.2]
    refine ⟨_, cm5 _, nf1 _ _, rfl, ?_⟩
    rcases hv v List.mem_cons_self with rfl | ⟨ty, h1t, h2t⟩
    · refine (rowsC (wf := wf) (d := d) t1).imp ?_
      rintro v h2 ⟨rfl, rfl⟩
      have n1 : look0 R "nobody" = 0 := by
        rw [lk1]; unfold look0
        rw [Option.not_isSome_iff_eq_none.mp (mt lookup_key.mp oN)]; rfl
      simp -implicitDefEqProofs only [k_asg, k_setE, k_asg2, k_ret, k_expr, k_if, k_nx, k_bk, k_ct, k_var, k_lit, k_bin, k_then, k_bf, k_nil, k_cons, k_f1, k_new, k_al, k_tup, k_lst, k_call, k_and, k_or, k_not, k_ifx, k_tru, k_tcmp, k_tand, k_tor, k_tnot, k_chain, k_tchn, k_ttrue, k_fld, k_make, k_meth, k_bmX, k_sub, k_setF, k_lc, k_dc, k_for, k_ival, k_iitems, k_irng, k_turn, k_dturn, ok_ok, ok_opt, bl_bl, List.getElem?_cons_zero, List.getElem?_cons_succ, Option.join_some, List.set_cons_succ, List.set_cons_zero, own_int, own_str, b_add, b_sub, k_intI, c_eqI, c_neI, c_lt, c_ge, c_gt, List.length_cons, List.length_nil, List.cons_append, List.nil_append, Nat.zero_add, lim_ok, Nat.reduceAdd, Nat.reduceLeDiff, true_and, ne_eq, reduceCtorEq, not_false_eq_true, and_true, bk_str, List.cons.injEq, Val.int.injEq, wipeE, lock_none, unlock_none, if_T, if_F, Bool.false_eq_true, c_ltI, c_leI, k_sl, k_part, k_pnone, MP.sl_str, tr_bl, k_par2C, g_tp2, tm_join, tm_append, tm_clearL, tm_clearD, tm_extend, tm_pop, tm_get, tm_split, tm_partition, Option.some.injEq, exists_eq_left', exists_eq_left, n1, show ((0 : Int) != 0) = false from rfl, in_of a1.2]
      refine ⟨_, cm6 _, nf2 _ _, rfl, (worthC (wf := wf) (d := d) t1).imp ?_⟩
      rintro v h2 ⟨rfl, rfl⟩
      have n2 : look0 Kk "nobody" = 0 := by
        rw [lk2]; unfold look0
        rw [Option.not_isSome_iff_eq_none.mp (mt lookup_key.mp oW)]; rfl
      simp -implicitDefEqProofs only [k_asg, k_setE, k_asg2, k_ret, k_expr, k_if, k_nx, k_bk, k_ct, k_var, k_lit, k_bin, k_then, k_bf, k_nil, k_cons, k_f1, k_new, k_al, k_tup, k_lst, k_call, k_and, k_or, k_not, k_ifx, k_tru, k_tcmp, k_tand, k_tor, k_tnot, k_chain, k_tchn, k_ttrue, k_fld, k_make, k_meth, k_bmX, k_sub, k_setF, k_lc, k_dc, k_for, k_ival, k_iitems, k_irng, k_turn, k_dturn, ok_ok, ok_opt, bl_bl, List.getElem?_cons_zero, List.getElem?_cons_succ, Option.join_some, List.set_cons_succ, List.set_cons_zero, own_int, own_str, b_add, b_sub, k_intI, c_eqI, c_neI, c_lt, c_ge, c_gt, List.length_cons, List.length_nil, List.cons_append, List.nil_append, Nat.zero_add, lim_ok, Nat.reduceAdd, Nat.reduceLeDiff, true_and, ne_eq, reduceCtorEq, not_false_eq_true, and_true, bk_str, List.cons.injEq, Val.int.injEq, wipeE, lock_none, unlock_none, if_T, if_F, Bool.false_eq_true, c_ltI, c_leI, k_sl, k_part, k_pnone, MP.sl_str, tr_bl, k_par2C, g_tp2, tm_join, tm_append, tm_clearL, tm_clearD, tm_extend, tm_pop, tm_get, tm_split, tm_partition, Option.some.injEq, exists_eq_left', exists_eq_left, n2, show ((0 : Int) != 0) = false from rfl]
      exact hnext
    · refine (rowsO (wf := wf) (d := d) (h2t _ l1) h1t).imp ?_
      rintro v h2 ⟨rfl, rfl⟩
      simp -implicitDefEqProofs only [k_asg, k_setE, k_asg2, k_ret, k_expr, k_if, k_nx, k_bk, k_ct, k_var, k_lit, k_bin, k_then, k_bf, k_nil, k_cons, k_f1, k_new, k_al, k_tup, k_lst, k_call, k_and, k_or, k_not, k_ifx, k_tru, k_tcmp, k_tand, k_tor, k_tnot, k_chain, k_tchn, k_ttrue, k_fld, k_make, k_meth, k_bmX, k_sub, k_setF, k_lc, k_dc, k_for, k_ival, k_iitems, k_irng, k_turn, k_dturn, ok_ok, ok_opt, bl_bl, List.getElem?_cons_zero, List.getElem?_cons_succ, Option.join_some, List.set_cons_succ, List.set_cons_zero, own_int, own_str, b_add, b_sub, k_intI, c_eqI, c_neI, c_lt, c_ge, c_gt, List.length_cons, List.length_nil, List.cons_append, List.nil_append, Nat.zero_add, lim_ok, Nat.reduceAdd, Nat.reduceLeDiff, true_and, ne_eq, reduceCtorEq, not_false_eq_true, and_true, bk_str, List.cons.injEq, Val.int.injEq, wipeE, lock_none, unlock_none, if_T, if_F, Bool.false_eq_true, c_ltI, c_leI, k_sl, k_part, k_pnone, MP.sl_str, tr_bl, k_par2C, g_tp2, tm_join, tm_append, tm_clearL, tm_clearD, tm_extend, tm_pop, tm_get, tm_split, tm_partition, Option.some.injEq, exists_eq_left', exists_eq_left, show ((0 : Int) != 0) = false from rfl, in_of a1.2]
      refine ⟨_, cm6 _, nf2 _ _, rfl, (worthO (wf := wf) (d := d) (h2t _ l1) h1t).imp ?_⟩
      rintro v h2 ⟨rfl, rfl⟩
      simp -implicitDefEqProofs only [k_asg, k_setE, k_asg2, k_ret, k_expr, k_if, k_nx, k_bk, k_ct, k_var, k_lit, k_bin, k_then, k_bf, k_nil, k_cons, k_f1, k_new, k_al, k_tup, k_lst, k_call, k_and, k_or, k_not, k_ifx, k_tru, k_tcmp, k_tand, k_tor, k_tnot, k_chain, k_tchn, k_ttrue, k_fld, k_make, k_meth, k_bmX, k_sub, k_setF, k_lc, k_dc, k_for, k_ival, k_iitems, k_irng, k_turn, k_dturn, ok_ok, ok_opt, bl_bl, List.getElem?_cons_zero, List.getElem?_cons_succ, Option.join_some, List.set_cons_succ, List.set_cons_zero, own_int, own_str, b_add, b_sub, k_intI, c_eqI, c_neI, c_lt, c_ge, c_gt, List.length_cons, List.length_nil, List.cons_append, List.nil_append, Nat.zero_add, lim_ok, Nat.reduceAdd, Nat.reduceLeDiff, true_and, ne_eq, reduceCtorEq, not_false_eq_true, and_true, bk_str, List.cons.injEq, Val.int.injEq, wipeE, lock_none, unlock_none, if_T, if_F, Bool.false_eq_true, c_ltI, c_leI, k_sl, k_part, k_pnone, MP.sl_str, tr_bl, k_par2C, g_tp2, tm_join, tm_append, tm_clearL, tm_clearD, tm_extend, tm_pop, tm_get, tm_split, tm_partition, Option.some.injEq, exists_eq_left', exists_eq_left, show ((0 : Int) != 0) = false from rfl]
      exact hnext
  · rintro env h1 ⟨_, ⟨o, rfl⟩, l1⟩
    refine hK _ _ ?_
    have l2 := l14.trans (Fr.unlock l1)
    generalize unlockH g2 h1 (some g.length) = h2 at l2 ⊢
    clear hK K
    simp -implicitDefEqProofs only [k_asg, k_setE, k_asg2, k_ret, k_expr, k_if, k_nx, k_bk, k_ct, k_var, k_lit, k_bin, k_then, k_bf, k_nil, k_cons, k_f1, k_new, k_al, k_tup, k_lst, k_call, k_and, k_or, k_not, k_ifx, k_tru, k_tcmp, k_tand, k_tor, k_tnot, k_chain, k_tchn, k_ttrue, k_fld, k_make, k_meth, k_bmX, k_sub, k_setF, k_lc, k_dc, k_for, k_ival, k_iitems, k_irng, k_turn, k_dturn, ok_ok, ok_opt, bl_bl, List.getElem?_cons_zero, List.getElem?_cons_succ, Option.join_some, List.set_cons_succ, List.set_cons_zero, own_int, own_str, b_add, b_sub, k_intI, c_eqI, c_neI, c_lt, c_ge, c_gt, List.length_cons, List.length_nil, List.cons_append, List.nil_append, Nat.zero_add, lim_ok, Nat.reduceAdd, Nat.reduceLeDiff, true_and, ne_eq, reduceCtorEq, not_false_eq_true, and_true, bk_str, List.cons.injEq, Val.int.injEq, wipeE, lock_none, unlock_none, if_T, if_F, Bool.false_eq_true, c_ltI, c_leI, k_sl, k_part, k_pnone, MP.sl_str, tr_bl, k_par2C, g_tp2, tm_join, tm_append, tm_clearL, tm_clearD, tm_extend, tm_pop, tm_get, tm_split, tm_partition, Option.some.injEq, exists_eq_left', exists_eq_left, k_seq, in_of (a.lx l2).2]
    refine ⟨_, cm9 _, nf5 _ _, rfl, (sizeC (wf := wf) (d := d) (t.le l2.le) nR).imp ?_⟩
    rintro v h3 ⟨rfl, l3⟩
    have A3 := (A.lx l2).lx l3
    simp -implicitDefEqProofs only [k_asg, k_setE, k_asg2, k_ret, k_expr, k_if, k_nx, k_bk, k_ct, k_var, k_lit, k_bin, k_then, k_bf, k_nil, k_cons, k_f1, k_new, k_al, k_tup, k_lst, k_call, k_and, k_or, k_not, k_ifx, k_tru, k_tcmp, k_tand, k_tor, k_tnot, k_chain, k_tchn, k_ttrue, k_fld, k_make, k_meth, k_bmX, k_sub, k_setF, k_lc, k_dc, k_for, k_ival, k_iitems, k_irng, k_turn, k_dturn, ok_ok, ok_opt, bl_bl, List.getElem?_cons_zero, List.getElem?_cons_succ, Option.join_some, List.set_cons_succ, List.set_cons_zero, own_int, own_str, b_add, b_sub, k_intI, c_eqI, c_neI, c_lt, c_ge, c_gt, List.length_cons, List.length_nil, List.cons_append, List.nil_append, Nat.zero_add, lim_ok, Nat.reduceAdd, Nat.reduceLeDiff, true_and, ne_eq, reduceCtorEq, not_false_eq_true, and_true, bk_str, List.cons.injEq, Val.int.injEq, wipeE, lock_none, unlock_none, if_T, if_F, Bool.false_eq_true, c_ltI, c_leI, k_sl, k_part, k_pnone, MP.sl_str, tr_bl, k_par2C, g_tp2, tm_join, tm_append, tm_clearL, tm_clearD, tm_extend, tm_pop, tm_get, tm_split, tm_partition, Option.some.injEq, exists_eq_left', exists_eq_left, src_dct A3.2, vkeys_dS]
    refine ⟨by rw [List.length_map, List.length_map]; exact le_lim (by omega), ?_⟩
    refine (lc_funK (fun v => match v with | .str x => some (.int (look0 N x)) | _ => none) _ [] _ ?_).imp ?_
    · intro v hv h4 l4 K1 hK1
      obtain ⟨x, hx, rfl⟩ := List.mem_map.mp hv
      simp -implicitDefEqProofs only [k_asg, k_setE, k_asg2, k_ret, k_expr, k_if, k_nx, k_bk, k_ct, k_var, k_lit, k_bin, k_then, k_bf, k_nil, k_cons, k_f1, k_new, k_al, k_tup, k_lst, k_call, k_and, k_or, k_not, k_ifx, k_tru, k_tcmp, k_tand, k_tor, k_tnot, k_chain, k_tchn, k_ttrue, k_fld, k_make, k_meth, k_bmX, k_sub, k_setF, k_lc, k_dc, k_for, k_ival, k_iitems, k_irng, k_turn, k_dturn, ok_ok, ok_opt, bl_bl, List.getElem?_cons_zero, List.getElem?_cons_succ, Option.join_some, List.set_cons_succ, List.set_cons_zero, own_int, own_str, b_add, b_sub, k_intI, c_eqI, c_neI, c_lt, c_ge, c_gt, List.length_cons, List.length_nil, List.cons_append, List.nil_append, Nat.zero_add, lim_ok, Nat.reduceAdd, Nat.reduceLeDiff, true_and, ne_eq, reduceCtorEq, not_false_eq_true, and_true, bk_str, List.cons.injEq, Val.int.injEq, wipeE, lock_none, unlock_none, if_T, if_F, Bool.false_eq_true, c_ltI, c_leI, k_sl, k_part, k_pnone, MP.sl_str, tr_bl, k_par2C, g_tp2, tm_join, tm_append, tm_clearL, tm_clearD, tm_extend, tm_pop, tm_get, tm_split, tm_partition, Option.some.injEq, exists_eq_left', exists_eq_left, ix_dct ((A3.lock (some na)).lx l4).2, look_dS, look_in hx, Option.map_some]
      exact hK1 _ (Fr.refl _ _)
    · rintro ys h4 ⟨l4, rfl⟩
      have l5 := (l2.trans l3).trans (Fr.unlock l4)
      generalize unlockH h3 h4 (some na) = h5 at l5 ⊢
      have e : ∀ ks : List Str, (ks.map Val.str).filterMap (fun v => match v with | .str x => some (Val.int (look0 N x)) | _ => none) = (ks.map (look0 N)).map Val.int := fun ks => by
        induction ks with
        | nil => rfl
        | cons k ks ih => rw [List.map_cons, List.filterMap_cons, ih]; rfl
      rw [List.nil_append, e, sum_lst (rd_new rfl), keys_look N gN.nd, ok_ok, c_eqI, ok_ok]
      have : (R.map (·.2)).sum = (N.map (·.2)).sum := by rw [← lessL_sum R nR, eR, lessL_sum N gN.nd]
      rw [this]
      exact ⟨by simp, l5.trans (Fr.app _ _ _)⟩
end
end MPL
end

section
set_option autoImplicit false
set_option Elab.async false
set_option linter.all false
set_option maxRecDepth 10000
set_option maxHeartbeats 1000000
namespace MPL
open PySem L2 MP
theorem c_neB {tb : Tb} {cf : Cf} {a b : Bool} {h : MP.Heap} : cmpF tb cf .NotEq (.bl a) (.bl b) h = .ok (.bl (a != b)) h := by
  show Rs.ok (Val.bl ((a == b) != true)) h = _
  cases a <;> cases b <;> rfl
theorem c_eqB {tb : Tb} {cf : Cf} {a b : Bool} {h : MP.Heap} : cmpF tb cf .Eq (.bl a) (.bl b) h = .ok (.bl (a == b)) h := by
  show Rs.ok (Val.bl ((a == b) != false)) h = _
  cases a <;> cases b <;> rfl
theorem At.set {h : MP.Heap} {a b : Nat} {c : B} {e : Cell} (x : At h a c) (hne : b ≠ a) : At (h.set b e) a c := ⟨x.1, by unfold rd; rw [List.getElem?_set_ne hne]; exact x.2⟩
theorem Aw.set {h : MP.Heap} {a b : Nat} {c : B} {e : Cell} (x : Aw h a c) (hne : b ≠ a) : Aw (h.set b e) a c := ⟨x.1, by rw [List.getElem?_set_ne hne]; exact x.2⟩
theorem Sr.set {h : MP.Heap} {b : Nat} {n : Int} {e : Cell} (x : Sr h 0 n) (hne : b ≠ 0) : Sr (h.set b e) 0 n := by
  obtain ⟨g, sd, c, e', r⟩ := x
  exact ⟨g, sd, c, by rw [List.getElem?_set_ne hne]; exact e', r⟩
theorem m_clearD {h : MP.Heap} {a : Nat} {kvs : List (Key × Val)} (e : h[a]? = some (false, .dct kvs)) : mClearD (.ref a) [] h = .ok .non (h.set a (false, .dct [])) := by
  unfold mClearD
  simp only [e]
theorem m_clearL {h : MP.Heap} {a : Nat} {kvs : List Val} (e : h[a]? = some (false, .lst kvs)) : mClearL (.ref a) [] h = .ok .non (h.set a (false, .lst [])) := by
  unfold mClearL
  simp only [e]
theorem new_set {h : MP.Heap} {b : B} {c : Cell} : Lx h ((h ++ [(false, b)]).set h.length c) := Fr.new (Fr.app _ _ _) (Nat.le_refl _)
/-- what the second pair of dicts may be -/
structure Two (xs : List Str) (M W' : List (Str × Int)) : Prop where
  g1 : Good1 M
  g2 : Good1 W'
  pos : ∀ p ∈ M, 0 ≤ p.2
  k1 : ∀ x ∈ M.map (·.1), x ∈ xs.take 4
  k2 : ∀ x ∈ W'.map (·.1), x ∈ xs.drop 3
  f1 : M.length ≤ 5
  f2 : W'.length ≤ 5
theorem nobody {x : Str} (h : Nm x) : x ≠ ("nobody" : Str) := by
  rintro rfl
  rcases h.mid (by decide) (by decide) with e | e
  · exact absurd e (by decide)
  · exact absurd e (by decide)
theorem mem_len {l : List (Str × Int)} {ks : List Str} (h : l.map (·.1) = ks) : l.length = ks.length := by rw [← h, List.length_map]
theorem look0_none {l : List (Str × Int)} {x : Str} (h : x ∉ l.map (·.1)) : look0 l x = 0 := by
  unfold look0
  rw [Option.not_isSome_iff_eq_none.mp (mt lookup_key.mp h)]; rfl
/-- sums, one by one -/
theorem sum_less {ks : List Str} {N M : List (Str × Int)} (hk : ks.Nodup) (nN : (N.map (·.1)).Nodup) (nM : (M.map (·.1)).Nodup) (kN : ∀ x ∈ N.map (·.1), x ∈ ks) (kM : ∀ x ∈ M.map (·.1), x ∈ ks) :
    lessL (addL (lessL N) (lessL M)) = lessL (ks.map fun x => (x, look0 N x + look0 M x)) := by
  have e : (ks.map fun x => (x, look0 N x + look0 M x)).map (·.1) = ks := by rw [List.map_map]; exact List.map_id'' (fun _ => rfl) _
  refine lessL_eq (addL_nodup _ _ (lessL_nodup N nN)) (by rw [e]; exact hk) fun x => ?_
  rw [addL_look x _ _ (lessL_nodup M nM), lessL_look, lessL_look]
  show _ = ((ks.map fun x => (x, look0 N x + look0 M x)).lookup x).getD 0
  rw [lookup_map (g := fun x => look0 N x + look0 M x)]
  by_cases hx : x ∈ ks
  · rw [if_pos hx]; rfl
  · rw [if_neg hx, look0_none fun h => hx (kN x h), look0_none fun h => hx (kM x h)]; rfl
def revV (v : Val) (h : MP.Heap) : Rs Val := match v with
  | .ref a => (match rd h a with
    | some (.lst xs) => al h (.lst xs.reverse)
    | _ => .bad)
  | _ => .bad
theorem k_rev {env : MP.Env} {h : MP.Heap} {f : Fe} {Q : Val → MP.Heap → Prop} : Ok (eRev f env h) Q = Ok (f env h) fun v h1 => Ok (revV v h1) Q := ok_congr fun v h1 => rfl
theorem rev_lst {h : MP.Heap} {a : Nat} {xs : List Val} (e : rd h a = some (.lst xs)) : revV (.ref a) h = al h (.lst xs.reverse) := by
  unfold revV
  simp only [e]
theorem putS_mem {l : List (Str × Int)} {x : Str} {z : Int} : ∀ p ∈ putS x z l, p = (x, z) ∨ p ∈ l := by
  induction l with
  | nil => intro p hp; exact .inl (List.mem_singleton.mp hp)
  | cons q l ih =>
    obtain ⟨y, w⟩ := q
    intro p hp
    unfold putS at hp
    split at hp
    · rename_i e
      rcases List.mem_cons.mp hp with rfl | hp
      · exact .inl (by rw [e])
      · exact .inr (List.mem_cons_of_mem _ hp)
    · rcases List.mem_cons.mp hp with rfl | hp
      · exact .inr List.mem_cons_self
      · rcases ih p hp with h | h
        · exact .inl h
        · exact .inr (List.mem_cons_of_mem _ h)
section
variable {wf d : Nat}
theorem neSame {h : MP.Heap} {v u : Val} {R K : List (Str × Int)} (t : IsTab 0 h v R K) (t' : IsTab 0 h u R K) (nR : (R.map (·.1)).Nodup) (nK : (K.map (·.1)).Nodup) {Q : Val → MP.Heap → Prop} (q : Q (.bl false) h) : Ok (cmpF D.tb (C wf (d + 1)) .NotEq v u h) Q := by
  obtain ⟨s, ra, ca, rfl, a, b, c⟩ := id t
  obtain ⟨s', ra', ca', rfl, a', b', c'⟩ := id t'
  rw [neT a.2 (ty_ins a'.2) nf00]
  refine (eqC (wf := wf) (d := d) t t' nR nK nR nK).imp ?_
  rintro v h ⟨rfl, rfl⟩
  rw [decide_eq_true ⟨rfl, rfl⟩]
  exact q
theorem eqSame {h : MP.Heap} {v u : Val} {R K : List (Str × Int)} (t : IsTab 0 h v R K) (t' : IsTab 0 h u R K) (nR : (R.map (·.1)).Nodup) (nK : (K.map (·.1)).Nodup) {Q : Val → MP.Heap → Prop} (q : Q (.bl true) h) : Ok (cmpF D.tb (C wf (d + 1)) .Eq v u h) Q := by
  obtain ⟨s, ra, ca, rfl, a, b, c⟩ := id t
  obtain ⟨s', ra', ca', rfl, a', b', c'⟩ := id t'
  rw [eqT a.2 (ty_ins a'.2) nf00]
  refine (eqC (wf := wf) (d := d) t t' nR nK nR nK).imp ?_
  rintro v h ⟨rfl, rfl⟩
  rw [decide_eq_true ⟨rfl, rfl⟩]
  exact q
theorem law {ns : List Int} : Ok (C wf (d + 8) 20 [.scr ns] []) fun v _ => v = .bl true := by
  refine ok_run (s := s20 (C wf (d + 7)) wf) fn20 rfl (s20_eq _ wf) ?_
  show OkS (s20 (C wf (d + 7)) wf [some (.scr ns), none, none, none, none, none, none, none, none, none, none, none, none, none, none] []) _ _ _ _
  unfold s20
  with_reducible refine k_seqK fun K hK => ?_
  try simp -implicitDefEqProofs only [k_asg, k_setE, k_asg2, k_ret, k_expr, k_if, k_nx, k_bk, k_ct, k_var, k_lit, k_bin, k_then, k_bf, k_nil, k_cons, k_f1, k_new, k_al, k_tup, k_lst, k_call, k_and, k_or, k_not, k_ifx, k_tru, k_tcmp, k_tand, k_tor, k_tnot, k_chain, k_tchn, k_ttrue, k_fld, k_make, k_meth, k_bmX, k_sub, k_setF, k_lc, k_dc, k_for, k_ival, k_iitems, k_irng, k_turn, k_dturn, ok_ok, ok_opt, bl_bl, List.getElem?_cons_zero, List.getElem?_cons_succ, Option.join_some, List.set_cons_succ, List.set_cons_zero, own_int, own_str, b_add, b_sub, k_intI, c_eqI, c_neI, c_lt, c_ge, c_gt, List.length_cons, List.length_nil, List.cons_append, List.nil_append, Nat.zero_add, lim_ok, Nat.reduceAdd, Nat.reduceLeDiff, true_and, ne_eq, reduceCtorEq, not_false_eq_true, and_true, bk_str, List.cons.injEq, Val.int.injEq, wipeE, lock_none, unlock_none, if_T, if_F, Bool.false_eq_true, c_ltI, c_leI, k_sl, k_part, k_pnone, MP.sl_str, tr_bl, k_par2C, g_tp2, tm_join, tm_append, tm_clearL, tm_clearD, tm_extend, tm_pop, tm_get, tm_split, tm_partition, Option.some.injEq, exists_eq_left', exists_eq_left]
  refine (source (wf := wf) (d := d + 6)).imp ?_
  rintro v h0 ⟨g, sd, rfl, s1, s2, rfl⟩
  have S0 : Sr ([] ++ [(false, B.lst (srcL g sd 0))]) 0 0 := ⟨g, sd, 0, rfl, s1, s2, by decide, by decide⟩
  generalize ([] : MP.Heap) ++ [(false, B.lst (srcL g sd 0))] = h0 at S0 ⊢
  refine hK _ _ ?_
  clear hK K s1 s2
  with_reducible refine k_seqK fun K hK => ?_
  try simp -implicitDefEqProofs only [k_asg, k_setE, k_asg2, k_ret, k_expr, k_if, k_nx, k_bk, k_ct, k_var, k_lit, k_bin, k_then, k_bf, k_nil, k_cons, k_f1, k_new, k_al, k_tup, k_lst, k_call, k_and, k_or, k_not, k_ifx, k_tru, k_tcmp, k_tand, k_tor, k_tnot, k_chain, k_tchn, k_ttrue, k_fld, k_make, k_meth, k_bmX, k_sub, k_setF, k_lc, k_dc, k_for, k_ival, k_iitems, k_irng, k_turn, k_dturn, ok_ok, ok_opt, bl_bl, List.getElem?_cons_zero, List.getElem?_cons_succ, Option.join_some, List.set_cons_succ, List.set_cons_zero, own_int, own_str, b_add, b_sub, k_intI, c_eqI, c_neI, c_lt, c_ge, c_gt, List.length_cons, List.length_nil, List.cons_append, List.nil_append, Nat.zero_add, lim_ok, Nat.reduceAdd, Nat.reduceLeDiff, true_and, ne_eq, reduceCtorEq, not_false_eq_true, and_true, bk_str, List.cons.injEq, Val.int.injEq, wipeE, lock_none, unlock_none, if_T, if_F, Bool.false_eq_true, c_ltI, c_leI, k_sl, k_part, k_pnone, MP.sl_str, tr_bl, k_par2C, g_tp2, tm_join, tm_append, tm_clearL, tm_clearD, tm_extend, tm_pop, tm_get, tm_split, tm_partition, Option.some.injEq, exists_eq_left', exists_eq_left]
  refine (namesC (wf := wf) (d := d + 4) (m := 6) rfl S0 (by decide) (by decide)).imp ?_
  rintro v h1 ⟨na, xs, rfl, X1, hl, hnd, hnm, _, S1⟩
  refine hK _ _ ?_
  clear hK K S0
  with_reducible refine k_seqK fun K hK => ?_
  try simp -implicitDefEqProofs only [k_asg, k_setE, k_asg2, k_ret, k_expr, k_if, k_nx, k_bk, k_ct, k_var, k_lit, k_bin, k_then, k_bf, k_nil, k_cons, k_f1, k_new, k_al, k_tup, k_lst, k_call, k_and, k_or, k_not, k_ifx, k_tru, k_tcmp, k_tand, k_tor, k_tnot, k_chain, k_tchn, k_ttrue, k_fld, k_make, k_meth, k_bmX, k_sub, k_setF, k_lc, k_dc, k_for, k_ival, k_iitems, k_irng, k_turn, k_dturn, ok_ok, ok_opt, bl_bl, List.getElem?_cons_zero, List.getElem?_cons_succ, Option.join_some, List.set_cons_succ, List.set_cons_zero, own_int, own_str, b_add, b_sub, k_intI, c_eqI, c_neI, c_lt, c_ge, c_gt, List.length_cons, List.length_nil, List.cons_append, List.nil_append, Nat.zero_add, lim_ok, Nat.reduceAdd, Nat.reduceLeDiff, true_and, ne_eq, reduceCtorEq, not_false_eq_true, and_true, bk_str, List.cons.injEq, Val.int.injEq, wipeE, lock_none, unlock_none, if_T, if_F, Bool.false_eq_true, c_ltI, c_leI, k_sl, k_part, k_pnone, MP.sl_str, tr_bl, k_par2C, g_tp2, tm_join, tm_append, tm_clearL, tm_clearD, tm_extend, tm_pop, tm_get, tm_split, tm_partition, Option.some.injEq, exists_eq_left', exists_eq_left]
  refine (lists (wf := wf) (d := d + 4) S1 (by decide) X1.at hl hnd).imp ?_
  rintro v h2 ⟨a, b, N, W, rfl, A2, B2, kN, kW, pN, l2, S2⟩
  refine ⟨_, _, rfl, hK _ _ ?_⟩
  clear hK K
  have X2 := X1.le l2
  clear X1 S1 l2
  have n4 : (xs.take 4).Nodup := (List.take_sublist _ _).nodup hnd
  have n3 : (xs.drop 3).Nodup := (List.drop_sublist _ _).nodup hnd
  have lN : N.length = 4 := by rw [mem_len kN, List.length_take, hl]; rfl
  have lW : W.length = 3 := by rw [mem_len kW, List.length_drop, hl]
  have gN : Good1 N := ⟨by rw [kN]; exact n4, fun p hp => (hnm _ (List.mem_of_mem_take (by rw [← kN]; exact List.mem_map.mpr ⟨p, hp, rfl⟩))).is, by omega⟩
  have gW : Good1 W := ⟨by rw [kW]; exact n3, fun p hp => (hnm _ (List.mem_of_mem_drop (by rw [← kW]; exact List.mem_map.mpr ⟨p, hp, rfl⟩))).is, by omega⟩
  have oN : ("nobody" : Str) ∉ N.map (·.1) := fun h => nobody (hnm _ (List.mem_of_mem_take (by rw [← kN]; exact h))) rfl
  have oW : ("nobody" : Str) ∉ W.map (·.1) := fun h => nobody (hnm _ (List.mem_of_mem_drop (by rw [← kW]; exact h))) rfl
  -- handed, told
  with_reducible refine k_seqK fun K hK => ?_
  have hp2 := S2.lt
  have m1 : Lx h2 (h2 ++ [(false, B.dct (dI N))]) := Fr.app _ _ _
  try simp -implicitDefEqProofs only [k_asg, k_setE, k_asg2, k_ret, k_expr, k_if, k_nx, k_bk, k_ct, k_var, k_lit, k_bin, k_then, k_bf, k_nil, k_cons, k_f1, k_new, k_al, k_tup, k_lst, k_call, k_and, k_or, k_not, k_ifx, k_tru, k_tcmp, k_tand, k_tor, k_tnot, k_chain, k_tchn, k_ttrue, k_fld, k_make, k_meth, k_bmX, k_sub, k_setF, k_lc, k_dc, k_for, k_ival, k_iitems, k_irng, k_turn, k_dturn, ok_ok, ok_opt, bl_bl, List.getElem?_cons_zero, List.getElem?_cons_succ, Option.join_some, List.set_cons_succ, List.set_cons_zero, own_int, own_str, b_add, b_sub, k_intI, c_eqI, c_neI, c_lt, c_ge, c_gt, List.length_cons, List.length_nil, List.cons_append, List.nil_append, Nat.zero_add, lim_ok, Nat.reduceAdd, Nat.reduceLeDiff, true_and, ne_eq, reduceCtorEq, not_false_eq_true, and_true, bk_str, List.cons.injEq, Val.int.injEq, wipeE, lock_none, unlock_none, if_T, if_F, Bool.false_eq_true, c_ltI, c_leI, k_sl, k_part, k_pnone, MP.sl_str, tr_bl, k_par2C, g_tp2, tm_join, tm_append, tm_clearL, tm_clearD, tm_extend, tm_pop, tm_get, tm_split, tm_partition, Option.some.injEq, exists_eq_left', exists_eq_left, dict_dct A2.at.2, dict_dct (B2.lx m1).at.2]
  have m2 : Lx (h2 ++ [(false, B.dct (dI N))]) (h2 ++ [(false, B.dct (dI N))] ++ [(false, B.dct (dI W))]) := Fr.app _ _ _
  have H3 : Aw (h2 ++ [(false, B.dct (dI N))] ++ [(false, B.dct (dI W))]) h2.length (.dct (dI N)) := (Aw.new hp2).lx m2
  have T3 : Aw (h2 ++ [(false, B.dct (dI N))] ++ [(false, B.dct (dI W))]) (h2 ++ [(false, B.dct (dI N))]).length (.dct (dI W)) := Aw.new (by simp)
  have hta : h2.length < (h2 ++ [(false, B.dct (dI N))]).length := by simp
  have m3 := m1.trans m2
  generalize (h2 ++ [(false, B.dct (dI N))]).length = ta at T3 hta ⊢
  generalize h2 ++ [(false, B.dct (dI N))] ++ [(false, B.dct (dI W))] = h3 at H3 T3 m3 ⊢
  have xha : h2.length ≠ na := Nat.ne_of_gt X2.lt
  have aha : h2.length ≠ a := Nat.ne_of_gt A2.lt
  have bha : h2.length ≠ b := Nat.ne_of_gt B2.lt
  have xta : ta ≠ na := by have := X2.lt; omega
  have ata : ta ≠ a := by have := A2.lt; omega
  have bta : ta ≠ b := by have := B2.lt; omega
  have X3 := X2.lx m3
  have A3 := A2.lx m3
  have B3 := B2.lx m3
  have S3 := m3.src S2
  have htl : ta < h3.length := T3.lt
  refine hK _ _ ?_
  clear hK K X2 A2 B2 S2 m1 m2 m3
  generalize h2.length = ha at *
  -- table
  with_reducible refine k_seqK fun K hK => ?_
  try simp -implicitDefEqProofs only [k_asg, k_setE, k_asg2, k_ret, k_expr, k_if, k_nx, k_bk, k_ct, k_var, k_lit, k_bin, k_then, k_bf, k_nil, k_cons, k_f1, k_new, k_al, k_tup, k_lst, k_call, k_and, k_or, k_not, k_ifx, k_tru, k_tcmp, k_tand, k_tor, k_tnot, k_chain, k_tchn, k_ttrue, k_fld, k_make, k_meth, k_bmX, k_sub, k_setF, k_lc, k_dc, k_for, k_ival, k_iitems, k_irng, k_turn, k_dturn, ok_ok, ok_opt, bl_bl, List.getElem?_cons_zero, List.getElem?_cons_succ, Option.join_some, List.set_cons_succ, List.set_cons_zero, own_int, own_str, b_add, b_sub, k_intI, c_eqI, c_neI, c_lt, c_ge, c_gt, List.length_cons, List.length_nil, List.cons_append, List.nil_append, Nat.zero_add, lim_ok, Nat.reduceAdd, Nat.reduceLeDiff, true_and, ne_eq, reduceCtorEq, not_false_eq_true, and_true, bk_str, List.cons.injEq, Val.int.injEq, wipeE, lock_none, unlock_none, if_T, if_F, Bool.false_eq_true, c_ltI, c_leI, k_sl, k_part, k_pnone, MP.sl_str, tr_bl, k_par2C, g_tp2, tm_join, tm_append, tm_clearL, tm_clearD, tm_extend, tm_pop, tm_get, tm_split, tm_partition, Option.some.injEq, exists_eq_left', exists_eq_left]
  have q1 : Lx h3 (h3 ++ [(false, B.dct [])]) := Fr.app _ _ _
  rw [ne_dcts (r := false) (B3.lx q1).at.2 (rd_new rfl) (by rw [if_neg (by rw [len_dS, lW]; decide)]), ok_ok]
  try simp -implicitDefEqProofs only [k_asg, k_setE, k_asg2, k_ret, k_expr, k_if, k_nx, k_bk, k_ct, k_var, k_lit, k_bin, k_then, k_bf, k_nil, k_cons, k_f1, k_new, k_al, k_tup, k_lst, k_call, k_and, k_or, k_not, k_ifx, k_tru, k_tcmp, k_tand, k_tor, k_tnot, k_chain, k_tchn, k_ttrue, k_fld, k_make, k_meth, k_bmX, k_sub, k_setF, k_lc, k_dc, k_for, k_ival, k_iitems, k_irng, k_turn, k_dturn, ok_ok, ok_opt, bl_bl, List.getElem?_cons_zero, List.getElem?_cons_succ, Option.join_some, List.set_cons_succ, List.set_cons_zero, own_int, own_str, b_add, b_sub, k_intI, c_eqI, c_neI, c_lt, c_ge, c_gt, List.length_cons, List.length_nil, List.cons_append, List.nil_append, Nat.zero_add, lim_ok, Nat.reduceAdd, Nat.reduceLeDiff, true_and, ne_eq, reduceCtorEq, not_false_eq_true, and_true, bk_str, List.cons.injEq, Val.int.injEq, wipeE, lock_none, unlock_none, if_T, if_F, Bool.false_eq_true, c_ltI, c_leI, k_sl, k_part, k_pnone, MP.sl_str, tr_bl, k_par2C, g_tp2, tm_join, tm_append, tm_clearL, tm_clearD, tm_extend, tm_pop, tm_get, tm_split, tm_partition, Option.some.injEq, exists_eq_left', exists_eq_left, Bool.not_false, if_true]
  have hp3 : 0 < (h3 ++ [(false, B.dct [])]).length := by simp
  refine make_tabA (init (d := d + 5)) hp3 (.dct (H3.lx q1).at) (.dct (T3.lx q1).at) gN gW pN fun h4 ra ca t1 t2 t3 u1 u2 l4 => ?_
  have X4 := (X3.lx q1).lx l4
  have A4 := (A3.lx q1).lx l4
  have B4 := (B3.lx q1).lx l4
  have H4 := (H3.lx q1).lx l4
  have T4 := (T3.lx q1).lx l4
  have S4 := l4.src (q1.src S3)
  have htl4 : ta < (h3 ++ [(false, B.dct [])]).length := by simp; omega
  refine hK _ _ ?_
  clear hK K X3 A3 B3 H3 T3 S3 q1 l4 hp3 htl
  generalize (h3 ++ [(false, B.dct [])]).length = s at *
  -- clear, late
  with_reducible refine k_seqK fun K hK => ?_
  try simp -implicitDefEqProofs only [k_asg, k_setE, k_asg2, k_ret, k_expr, k_if, k_nx, k_bk, k_ct, k_var, k_lit, k_bin, k_then, k_bf, k_nil, k_cons, k_f1, k_new, k_al, k_tup, k_lst, k_call, k_and, k_or, k_not, k_ifx, k_tru, k_tcmp, k_tand, k_tor, k_tnot, k_chain, k_tchn, k_ttrue, k_fld, k_make, k_meth, k_bmX, k_sub, k_setF, k_lc, k_dc, k_for, k_ival, k_iitems, k_irng, k_turn, k_dturn, ok_ok, ok_opt, bl_bl, List.getElem?_cons_zero, List.getElem?_cons_succ, Option.join_some, List.set_cons_succ, List.set_cons_zero, own_int, own_str, b_add, b_sub, k_intI, c_eqI, c_neI, c_lt, c_ge, c_gt, List.length_cons, List.length_nil, List.cons_append, List.nil_append, Nat.zero_add, lim_ok, Nat.reduceAdd, Nat.reduceLeDiff, true_and, ne_eq, reduceCtorEq, not_false_eq_true, and_true, bk_str, List.cons.injEq, Val.int.injEq, wipeE, lock_none, unlock_none, if_T, if_F, Bool.false_eq_true, c_ltI, c_leI, k_sl, k_part, k_pnone, MP.sl_str, tr_bl, k_par2C, g_tp2, tm_join, tm_append, tm_clearL, tm_clearD, tm_extend, tm_pop, tm_get, tm_split, tm_partition, Option.some.injEq, exists_eq_left', exists_eq_left, bk_d H4.2, m_clearD H4.2]
  refine hK _ _ ?_
  clear hK K
  have X5 := Aw.set (e := (false, B.dct [])) X4 xha
  have A5 := Aw.set (e := (false, B.dct [])) A4 aha
  have B5 := Aw.set (e := (false, B.dct [])) B4 bha
  have T5 := Aw.set (e := (false, B.dct [])) T4 (show ha ≠ ta by omega)
  have S5 := Sr.set (e := (false, B.dct [])) S4 (show ha ≠ 0 from Nat.ne_of_gt H4.1)
  have v1 := At.set (e := (false, B.dct [])) t1 (show ha ≠ s by omega)
  have v2 := At.set (e := (false, B.dct [])) t2 (show ha ≠ ra by omega)
  have v3 := At.set (e := (false, B.dct [])) t3 (show ha ≠ ca by omega)
  generalize h4.set ha (false, B.dct []) = h5 at X5 A5 B5 T5 S5 v1 v2 v3 ⊢
  with_reducible refine k_seqK fun K hK => ?_
  try simp -implicitDefEqProofs only [k_asg, k_setE, k_asg2, k_ret, k_expr, k_if, k_nx, k_bk, k_ct, k_var, k_lit, k_bin, k_then, k_bf, k_nil, k_cons, k_f1, k_new, k_al, k_tup, k_lst, k_call, k_and, k_or, k_not, k_ifx, k_tru, k_tcmp, k_tand, k_tor, k_tnot, k_chain, k_tchn, k_ttrue, k_fld, k_make, k_meth, k_bmX, k_sub, k_setF, k_lc, k_dc, k_for, k_ival, k_iitems, k_irng, k_turn, k_dturn, ok_ok, ok_opt, bl_bl, List.getElem?_cons_zero, List.getElem?_cons_succ, Option.join_some, List.set_cons_succ, List.set_cons_zero, own_int, own_str, b_add, b_sub, k_intI, c_eqI, c_neI, c_lt, c_ge, c_gt, List.length_cons, List.length_nil, List.cons_append, List.nil_append, Nat.zero_add, lim_ok, Nat.reduceAdd, Nat.reduceLeDiff, true_and, ne_eq, reduceCtorEq, not_false_eq_true, and_true, bk_str, List.cons.injEq, Val.int.injEq, wipeE, lock_none, unlock_none, if_T, if_F, Bool.false_eq_true, c_ltI, c_leI, k_sl, k_part, k_pnone, MP.sl_str, tr_bl, k_par2C, g_tp2, tm_join, tm_append, tm_clearL, tm_clearD, tm_extend, tm_pop, tm_get, tm_split, tm_partition, Option.some.injEq, exists_eq_left', exists_eq_left, put_dct T5.2 (by rw [len_dS, lW]; exact Nat.lt_of_lt_of_le (by decide) (le_lim (k := 100) (by decide)))]
  refine hK _ _ ?_
  clear hK K X4 A4 B4 H4 T4 S4 t1 t2 t3
  have X6 := Aw.set (e := (false, B.dct (setK (dI W) (.inr "late") (.int 5)))) X5 xta
  have A6 := Aw.set (e := (false, B.dct (setK (dI W) (.inr "late") (.int 5)))) A5 ata
  have B6 := Aw.set (e := (false, B.dct (setK (dI W) (.inr "late") (.int 5)))) B5 bta
  have S6 := Sr.set (e := (false, B.dct (setK (dI W) (.inr "late") (.int 5)))) S5 (Nat.ne_of_gt T5.1)
  have t1 := At.set (e := (false, B.dct (setK (dI W) (.inr "late") (.int 5)))) v1 (show ta ≠ s by omega)
  have t2 := At.set (e := (false, B.dct (setK (dI W) (.inr "late") (.int 5)))) v2 (show ta ≠ ra by omega)
  have t3 := At.set (e := (false, B.dct (setK (dI W) (.inr "late") (.int 5)))) v3 (show ta ≠ ca by omega)
  generalize h5.set ta (false, B.dct (setK (dI W) (.inr "late") (.int 5))) = h6 at X6 A6 B6 S6 t1 t2 t3 ⊢
  have t : IsTab 0 h6 (.ref s) N W := ⟨s, ra, ca, rfl, t1, t2, t3⟩
  clear X5 A5 B5 S5 v1 v2 v3 T5
  -- is_right
  with_reducible refine k_seqK fun K hK => ?_
  try simp -implicitDefEqProofs only [k_asg, k_setE, k_asg2, k_ret, k_expr, k_if, k_nx, k_bk, k_ct, k_var, k_lit, k_bin, k_then, k_bf, k_nil, k_cons, k_f1, k_new, k_al, k_tup, k_lst, k_call, k_and, k_or, k_not, k_ifx, k_tru, k_tcmp, k_tand, k_tor, k_tnot, k_chain, k_tchn, k_ttrue, k_fld, k_make, k_meth, k_bmX, k_sub, k_setF, k_lc, k_dc, k_for, k_ival, k_iitems, k_irng, k_turn, k_dturn, ok_ok, ok_opt, bl_bl, List.getElem?_cons_zero, List.getElem?_cons_succ, Option.join_some, List.set_cons_succ, List.set_cons_zero, own_int, own_str, b_add, b_sub, k_intI, c_eqI, c_neI, c_lt, c_ge, c_gt, List.length_cons, List.length_nil, List.cons_append, List.nil_append, Nat.zero_add, lim_ok, Nat.reduceAdd, Nat.reduceLeDiff, true_and, ne_eq, reduceCtorEq, not_false_eq_true, and_true, bk_str, List.cons.injEq, Val.int.injEq, wipeE, lock_none, unlock_none, if_T, if_F, Bool.false_eq_true, c_ltI, c_leI, k_sl, k_part, k_pnone, MP.sl_str, tr_bl, k_par2C, g_tp2, tm_join, tm_append, tm_clearL, tm_clearD, tm_extend, tm_pop, tm_get, tm_split, tm_partition, Option.some.injEq, exists_eq_left', exists_eq_left]
  refine (isRight (wf := wf) (d := d + 5) S6.lt t A6.at B6.at rfl rfl gN.nd gN gW oN oW).imp ?_
  rintro v h7 ⟨rfl, l7⟩
  try simp -implicitDefEqProofs only [k_asg, k_setE, k_asg2, k_ret, k_expr, k_if, k_nx, k_bk, k_ct, k_var, k_lit, k_bin, k_then, k_bf, k_nil, k_cons, k_f1, k_new, k_al, k_tup, k_lst, k_call, k_and, k_or, k_not, k_ifx, k_tru, k_tcmp, k_tand, k_tor, k_tnot, k_chain, k_tchn, k_ttrue, k_fld, k_make, k_meth, k_bmX, k_sub, k_setF, k_lc, k_dc, k_for, k_ival, k_iitems, k_irng, k_turn, k_dturn, ok_ok, ok_opt, bl_bl, List.getElem?_cons_zero, List.getElem?_cons_succ, Option.join_some, List.set_cons_succ, List.set_cons_zero, own_int, own_str, b_add, b_sub, k_intI, c_eqI, c_neI, c_lt, c_ge, c_gt, List.length_cons, List.length_nil, List.cons_append, List.nil_append, Nat.zero_add, lim_ok, Nat.reduceAdd, Nat.reduceLeDiff, true_and, ne_eq, reduceCtorEq, not_false_eq_true, and_true, bk_str, List.cons.injEq, Val.int.injEq, wipeE, lock_none, unlock_none, if_T, if_F, Bool.false_eq_true, c_ltI, c_leI, k_sl, k_part, k_pnone, MP.sl_str, tr_bl, k_par2C, g_tp2, tm_join, tm_append, tm_clearL, tm_clearD, tm_extend, tm_pop, tm_get, tm_split, tm_partition, Option.some.injEq, exists_eq_left', exists_eq_left, if_true, Bool.not_true]
  refine hK _ _ ?_
  clear hK K
  have X7 := X6.lx l7
  have A7 := A6.lx l7
  have B7 := B6.lx l7
  have S7 := l7.src S6
  have T7 := t.le l7.le
  have t17 := t1.lx l7
  clear X6 A6 B6 S6 t l7 t1 t2 t3
  -- row_kinds().append
  with_reducible refine k_seqK fun K hK => ?_
  try simp -implicitDefEqProofs only [k_asg, k_setE, k_asg2, k_ret, k_expr, k_if, k_nx, k_bk, k_ct, k_var, k_lit, k_bin, k_then, k_bf, k_nil, k_cons, k_f1, k_new, k_al, k_tup, k_lst, k_call, k_and, k_or, k_not, k_ifx, k_tru, k_tcmp, k_tand, k_tor, k_tnot, k_chain, k_tchn, k_ttrue, k_fld, k_make, k_meth, k_bmX, k_sub, k_setF, k_lc, k_dc, k_for, k_ival, k_iitems, k_irng, k_turn, k_dturn, ok_ok, ok_opt, bl_bl, List.getElem?_cons_zero, List.getElem?_cons_succ, Option.join_some, List.set_cons_succ, List.set_cons_zero, own_int, own_str, b_add, b_sub, k_intI, c_eqI, c_neI, c_lt, c_ge, c_gt, List.length_cons, List.length_nil, List.cons_append, List.nil_append, Nat.zero_add, lim_ok, Nat.reduceAdd, Nat.reduceLeDiff, true_and, ne_eq, reduceCtorEq, not_false_eq_true, and_true, bk_str, List.cons.injEq, Val.int.injEq, wipeE, lock_none, unlock_none, if_T, if_F, Bool.false_eq_true, c_ltI, c_leI, k_sl, k_part, k_pnone, MP.sl_str, tr_bl, k_par2C, g_tp2, tm_join, tm_append, tm_clearL, tm_clearD, tm_extend, tm_pop, tm_get, tm_split, tm_partition, Option.some.injEq, exists_eq_left', exists_eq_left, in_of t17.2]
  refine ⟨_, cm7 _, nf3 _ _, rfl, (kindsC (wf := wf) (d := d + 6) T7).imp ?_⟩
  rintro v h8 ⟨rfl, rfl⟩
  have e8 : (h7 ++ [(false, B.lst (((lessL N).map (·.1)).map Val.str))])[h7.length]? = some (false, B.lst (((lessL N).map (·.1)).map Val.str)) := by simp
  try simp -implicitDefEqProofs only [k_asg, k_setE, k_asg2, k_ret, k_expr, k_if, k_nx, k_bk, k_ct, k_var, k_lit, k_bin, k_then, k_bf, k_nil, k_cons, k_f1, k_new, k_al, k_tup, k_lst, k_call, k_and, k_or, k_not, k_ifx, k_tru, k_tcmp, k_tand, k_tor, k_tnot, k_chain, k_tchn, k_ttrue, k_fld, k_make, k_meth, k_bmX, k_sub, k_setF, k_lc, k_dc, k_for, k_ival, k_iitems, k_irng, k_turn, k_dturn, ok_ok, ok_opt, bl_bl, List.getElem?_cons_zero, List.getElem?_cons_succ, Option.join_some, List.set_cons_succ, List.set_cons_zero, own_int, own_str, b_add, b_sub, k_intI, c_eqI, c_neI, c_lt, c_ge, c_gt, List.length_cons, List.length_nil, List.cons_append, List.nil_append, Nat.zero_add, lim_ok, Nat.reduceAdd, Nat.reduceLeDiff, true_and, ne_eq, reduceCtorEq, not_false_eq_true, and_true, bk_str, List.cons.injEq, Val.int.injEq, wipeE, lock_none, unlock_none, if_T, if_F, Bool.false_eq_true, c_ltI, c_leI, k_sl, k_part, k_pnone, MP.sl_str, tr_bl, k_par2C, g_tp2, tm_join, tm_append, tm_clearL, tm_clearD, tm_extend, tm_pop, tm_get, tm_split, tm_partition, Option.some.injEq, exists_eq_left', exists_eq_left, bk_l e8, m_append e8 (by simp; exact Nat.lt_of_le_of_lt (lessL_len N) (by rw [lN]; exact Nat.lt_of_lt_of_le (by decide) (le_lim (k := 100) (by decide))))]
  refine hK _ _ ?_
  clear hK K
  have l8 : Lx h7 ((h7 ++ [(false, B.lst (((lessL N).map (·.1)).map Val.str))]).set h7.length (false, B.lst ((((lessL N).map (·.1)).map Val.str) ++ [.str "late"]))) := new_set
  generalize (h7 ++ [(false, B.lst (((lessL N).map (·.1)).map Val.str))]).set h7.length (false, B.lst ((((lessL N).map (·.1)).map Val.str) ++ [.str "late"])) = h8 at l8 ⊢
  clear e8
  with_reducible refine k_seqK fun K hK => ?_
  try simp -implicitDefEqProofs only [k_asg, k_setE, k_asg2, k_ret, k_expr, k_if, k_nx, k_bk, k_ct, k_var, k_lit, k_bin, k_then, k_bf, k_nil, k_cons, k_f1, k_new, k_al, k_tup, k_lst, k_call, k_and, k_or, k_not, k_ifx, k_tru, k_tcmp, k_tand, k_tor, k_tnot, k_chain, k_tchn, k_ttrue, k_fld, k_make, k_meth, k_bmX, k_sub, k_setF, k_lc, k_dc, k_for, k_ival, k_iitems, k_irng, k_turn, k_dturn, ok_ok, ok_opt, bl_bl, List.getElem?_cons_zero, List.getElem?_cons_succ, Option.join_some, List.set_cons_succ, List.set_cons_zero, own_int, own_str, b_add, b_sub, k_intI, c_eqI, c_neI, c_lt, c_ge, c_gt, List.length_cons, List.length_nil, List.cons_append, List.nil_append, Nat.zero_add, lim_ok, Nat.reduceAdd, Nat.reduceLeDiff, true_and, ne_eq, reduceCtorEq, not_false_eq_true, and_true, bk_str, List.cons.injEq, Val.int.injEq, wipeE, lock_none, unlock_none, if_T, if_F, Bool.false_eq_true, c_ltI, c_leI, k_sl, k_part, k_pnone, MP.sl_str, tr_bl, k_par2C, g_tp2, tm_join, tm_append, tm_clearL, tm_clearD, tm_extend, tm_pop, tm_get, tm_split, tm_partition, Option.some.injEq, exists_eq_left', exists_eq_left, in_of (t17.lx l8).2]
  refine ⟨_, cm8 _, nf4 _ _, rfl, (ctrsC (wf := wf) (d := d + 6) (T7.le l8.le)).imp ?_⟩
  rintro v h9 ⟨rfl, rfl⟩
  have e9 : (h8 ++ [(false, B.lst (((lessL W).map (·.1)).map Val.str))])[h8.length]? = some (false, B.lst (((lessL W).map (·.1)).map Val.str)) := by simp
  try simp -implicitDefEqProofs only [k_asg, k_setE, k_asg2, k_ret, k_expr, k_if, k_nx, k_bk, k_ct, k_var, k_lit, k_bin, k_then, k_bf, k_nil, k_cons, k_f1, k_new, k_al, k_tup, k_lst, k_call, k_and, k_or, k_not, k_ifx, k_tru, k_tcmp, k_tand, k_tor, k_tnot, k_chain, k_tchn, k_ttrue, k_fld, k_make, k_meth, k_bmX, k_sub, k_setF, k_lc, k_dc, k_for, k_ival, k_iitems, k_irng, k_turn, k_dturn, ok_ok, ok_opt, bl_bl, List.getElem?_cons_zero, List.getElem?_cons_succ, Option.join_some, List.set_cons_succ, List.set_cons_zero, own_int, own_str, b_add, b_sub, k_intI, c_eqI, c_neI, c_lt, c_ge, c_gt, List.length_cons, List.length_nil, List.cons_append, List.nil_append, Nat.zero_add, lim_ok, Nat.reduceAdd, Nat.reduceLeDiff, true_and, ne_eq, reduceCtorEq, not_false_eq_true, and_true, bk_str, List.cons.injEq, Val.int.injEq, wipeE, lock_none, unlock_none, if_T, if_F, Bool.false_eq_true, c_ltI, c_leI, k_sl, k_part, k_pnone, MP.sl_str, tr_bl, k_par2C, g_tp2, tm_join, tm_append, tm_clearL, tm_clearD, tm_extend, tm_pop, tm_get, tm_split, tm_partition, Option.some.injEq, exists_eq_left', exists_eq_left, bk_l e9, m_clearL e9]
  refine hK _ _ ?_
  clear hK K
  have l9 : Lx h8 ((h8 ++ [(false, B.lst (((lessL W).map (·.1)).map Val.str))]).set h8.length (false, B.lst [])) := new_set
  generalize (h8 ++ [(false, B.lst (((lessL W).map (·.1)).map Val.str))]).set h8.length (false, B.lst []) = h9 at l9 ⊢
  have l10 := l8.trans l9
  have X9 := X7.lx l10
  have A9 := A7.lx l10
  have B9 := B7.lx l10
  have S9 := l10.src S7
  have T9 := T7.le l10.le
  have t19 := t17.lx l10
  clear e9 l8 l9 l10 X7 A7 B7 S7 T7 t17
  -- the second pair
  with_reducible refine k_seqK fun K hK => ?_
  try simp -implicitDefEqProofs only [k_asg, k_setE, k_asg2, k_ret, k_expr, k_if, k_nx, k_bk, k_ct, k_var, k_lit, k_bin, k_then, k_bf, k_nil, k_cons, k_f1, k_new, k_al, k_tup, k_lst, k_call, k_and, k_or, k_not, k_ifx, k_tru, k_tcmp, k_tand, k_tor, k_tnot, k_chain, k_tchn, k_ttrue, k_fld, k_make, k_meth, k_bmX, k_sub, k_setF, k_lc, k_dc, k_for, k_ival, k_iitems, k_irng, k_turn, k_dturn, ok_ok, ok_opt, bl_bl, List.getElem?_cons_zero, List.getElem?_cons_succ, Option.join_some, List.set_cons_succ, List.set_cons_zero, own_int, own_str, b_add, b_sub, k_intI, c_eqI, c_neI, c_lt, c_ge, c_gt, List.length_cons, List.length_nil, List.cons_append, List.nil_append, Nat.zero_add, lim_ok, Nat.reduceAdd, Nat.reduceLeDiff, true_and, ne_eq, reduceCtorEq, not_false_eq_true, and_true, bk_str, List.cons.injEq, Val.int.injEq, wipeE, lock_none, unlock_none, if_T, if_F, Bool.false_eq_true, c_ltI, c_leI, k_sl, k_part, k_pnone, MP.sl_str, tr_bl, k_par2C, g_tp2, tm_join, tm_append, tm_clearL, tm_clearD, tm_extend, tm_pop, tm_get, tm_split, tm_partition, Option.some.injEq, exists_eq_left', exists_eq_left]
  refine (lists (wf := wf) (d := d + 4) S9 (by decide) X9.at hl hnd).imp ?_
  rintro v h10 ⟨ma, wa, M, W', rfl, M10, V10, kM, kW', pM, l10, S10⟩
  refine ⟨_, _, rfl, hK _ _ ?_⟩
  clear hK K
  have X10 := X9.le l10
  have A10 := A9.le l10
  have B10 := B9.le l10
  have T10 := T9.le l10
  have t10 := t19.le l10
  clear X9 A9 B9 S9 T9 t19 l10
  have lM : M.length = 4 := by rw [mem_len kM, List.length_take, hl]; rfl
  have lW' : W'.length = 3 := by rw [mem_len kW', List.length_drop, hl]
  have two0 : Two xs M W' := ⟨⟨by rw [kM]; exact n4, fun p hp => (hnm _ (List.mem_of_mem_take (by rw [← kM]; exact List.mem_map.mpr ⟨p, hp, rfl⟩))).is, by omega⟩, ⟨by rw [kW']; exact n3, fun p hp => (hnm _ (List.mem_of_mem_drop (by rw [← kW']; exact List.mem_map.mpr ⟨p, hp, rfl⟩))).is, by omega⟩, pM, fun x hx => by rw [← kM]; exact hx, fun x hx => by rw [← kW']; exact hx, by omega, by omega⟩
  with_reducible refine k_seqK fun K hK => ?_
  have fin : ∀ (h : MP.Heap) (ma wa : Nat) (M W' : List (Str × Int)), Two xs M W' → Aw h na (.lst (xs.map Val.str)) → Aw h a (.dct (dI N)) → Aw h b (.dct (dI W)) → IsTab 0 h (.ref s) N W → At h s (.ins 0 (tabF ra ca)) → Aw h ma (.dct (dI M)) → Aw h wa (.dct (dI W')) → 0 < h.length →
      K [some (.scr ns), some (.ref 0), some (.ref na), some (.ref a), some (.ref b), some (.ref ha), some (.ref ta), some (.ref s), some (.ref ma), some (.ref wa), none, none, none, none, none] h := by
    intro h ma wa M W' two X A Bb T t1 Mm Ww hp
    refine hK _ _ ?_
    clear hK K
    clear h10 M10 V10 X10 A10 B10 T10 t10 S10 two0 kM kW' pM lM lW'
    -- other
    with_reducible refine k_seqK fun K hK => ?_
    try simp -implicitDefEqProofs only [k_asg, k_setE, k_asg2, k_ret, k_expr, k_if, k_nx, k_bk, k_ct, k_var, k_lit, k_bin, k_then, k_bf, k_nil, k_cons, k_f1, k_new, k_al, k_tup, k_lst, k_call, k_and, k_or, k_not, k_ifx, k_tru, k_tcmp, k_tand, k_tor, k_tnot, k_chain, k_tchn, k_ttrue, k_fld, k_make, k_meth, k_bmX, k_sub, k_setF, k_lc, k_dc, k_for, k_ival, k_iitems, k_irng, k_turn, k_dturn, ok_ok, ok_opt, bl_bl, List.getElem?_cons_zero, List.getElem?_cons_succ, Option.join_some, List.set_cons_succ, List.set_cons_zero, own_int, own_str, b_add, b_sub, k_intI, c_eqI, c_neI, c_lt, c_ge, c_gt, List.length_cons, List.length_nil, List.cons_append, List.nil_append, Nat.zero_add, lim_ok, Nat.reduceAdd, Nat.reduceLeDiff, true_and, ne_eq, reduceCtorEq, not_false_eq_true, and_true, bk_str, List.cons.injEq, Val.int.injEq, wipeE, lock_none, unlock_none, if_T, if_F, Bool.false_eq_true, c_ltI, c_leI, k_sl, k_part, k_pnone, MP.sl_str, tr_bl, k_par2C, g_tp2, tm_join, tm_append, tm_clearL, tm_clearD, tm_extend, tm_pop, tm_get, tm_split, tm_partition, Option.some.injEq, exists_eq_left', exists_eq_left]
    refine make_tabA (init (d := d + 5)) hp (.dct Mm.at) (.dct Ww.at) two.g1 two.g2 two.pos fun h1 ra' ca' o1 o2 o3 _ _ l1 => ?_
    have O : IsTab 0 h1 (.ref h.length) M W' := ⟨_, ra', ca', rfl, o1, o2, o3⟩
    have hp1 := Nat.lt_of_lt_of_le hp l1.len
    generalize h.length = s' at *
    replace X := X.lx l1
    replace A := A.lx l1
    replace Bb := Bb.lx l1
    replace Mm := Mm.lx l1
    replace Ww := Ww.lx l1
    replace T := T.le l1.le
    replace t1 := t1.lx l1
    refine hK _ _ ?_
    clear hK K o2 o3
    -- same
    with_reducible refine k_seqK fun K hK => ?_
    try simp -implicitDefEqProofs only [k_asg, k_setE, k_asg2, k_ret, k_expr, k_if, k_nx, k_bk, k_ct, k_var, k_lit, k_bin, k_then, k_bf, k_nil, k_cons, k_f1, k_new, k_al, k_tup, k_lst, k_call, k_and, k_or, k_not, k_ifx, k_tru, k_tcmp, k_tand, k_tor, k_tnot, k_chain, k_tchn, k_ttrue, k_fld, k_make, k_meth, k_bmX, k_sub, k_setF, k_lc, k_dc, k_for, k_ival, k_iitems, k_irng, k_turn, k_dturn, ok_ok, ok_opt, bl_bl, List.getElem?_cons_zero, List.getElem?_cons_succ, Option.join_some, List.set_cons_succ, List.set_cons_zero, own_int, own_str, b_add, b_sub, k_intI, c_eqI, c_neI, c_lt, c_ge, c_gt, List.length_cons, List.length_nil, List.cons_append, List.nil_append, Nat.zero_add, lim_ok, Nat.reduceAdd, Nat.reduceLeDiff, true_and, ne_eq, reduceCtorEq, not_false_eq_true, and_true, bk_str, List.cons.injEq, Val.int.injEq, wipeE, lock_none, unlock_none, if_T, if_F, Bool.false_eq_true, c_ltI, c_leI, k_sl, k_part, k_pnone, MP.sl_str, tr_bl, k_par2C, g_tp2, tm_join, tm_append, tm_clearL, tm_clearD, tm_extend, tm_pop, tm_get, tm_split, tm_partition, Option.some.injEq, exists_eq_left', exists_eq_left]
    refine (lawLess (wf := wf) (d := d + 6) h1 ma M hp1 Mm.at two.g1.nd (by have := two.f1; omega)).imp ?_
    rintro v h2 ⟨b2, rfl, _, w2, l2⟩
    try simp -implicitDefEqProofs only [k_asg, k_setE, k_asg2, k_ret, k_expr, k_if, k_nx, k_bk, k_ct, k_var, k_lit, k_bin, k_then, k_bf, k_nil, k_cons, k_f1, k_new, k_al, k_tup, k_lst, k_call, k_and, k_or, k_not, k_ifx, k_tru, k_tcmp, k_tand, k_tor, k_tnot, k_chain, k_tchn, k_ttrue, k_fld, k_make, k_meth, k_bmX, k_sub, k_setF, k_lc, k_dc, k_for, k_ival, k_iitems, k_irng, k_turn, k_dturn, ok_ok, ok_opt, bl_bl, List.getElem?_cons_zero, List.getElem?_cons_succ, Option.join_some, List.set_cons_succ, List.set_cons_zero, own_int, own_str, b_add, b_sub, k_intI, c_eqI, c_neI, c_lt, c_ge, c_gt, List.length_cons, List.length_nil, List.cons_append, List.nil_append, Nat.zero_add, lim_ok, Nat.reduceAdd, Nat.reduceLeDiff, true_and, ne_eq, reduceCtorEq, not_false_eq_true, and_true, bk_str, List.cons.injEq, Val.int.injEq, wipeE, lock_none, unlock_none, if_T, if_F, Bool.false_eq_true, c_ltI, c_leI, k_sl, k_part, k_pnone, MP.sl_str, tr_bl, k_par2C, g_tp2, tm_join, tm_append, tm_clearL, tm_clearD, tm_extend, tm_pop, tm_get, tm_split, tm_partition, Option.some.injEq, exists_eq_left', exists_eq_left]
    refine (lawLess (wf := wf) (d := d + 6) h2 a N (Nat.lt_of_lt_of_le hp1 l2.len) (A.lx l2).at gN.nd (by omega)).imp ?_
    rintro v h3 ⟨b3, rfl, _, w3, l3⟩
    rw [eq_dcts (w2.lx l3).at.2 w3.at.2 (eqDct_less h3 two.g1.nd gN.nd)]
    try simp -implicitDefEqProofs only [k_asg, k_setE, k_asg2, k_ret, k_expr, k_if, k_nx, k_bk, k_ct, k_var, k_lit, k_bin, k_then, k_bf, k_nil, k_cons, k_f1, k_new, k_al, k_tup, k_lst, k_call, k_and, k_or, k_not, k_ifx, k_tru, k_tcmp, k_tand, k_tor, k_tnot, k_chain, k_tchn, k_ttrue, k_fld, k_make, k_meth, k_bmX, k_sub, k_setF, k_lc, k_dc, k_for, k_ival, k_iitems, k_irng, k_turn, k_dturn, ok_ok, ok_opt, bl_bl, List.getElem?_cons_zero, List.getElem?_cons_succ, Option.join_some, List.set_cons_succ, List.set_cons_zero, own_int, own_str, b_add, b_sub, k_intI, c_eqI, c_neI, c_lt, c_ge, c_gt, List.length_cons, List.length_nil, List.cons_append, List.nil_append, Nat.zero_add, lim_ok, Nat.reduceAdd, Nat.reduceLeDiff, true_and, ne_eq, reduceCtorEq, not_false_eq_true, and_true, bk_str, List.cons.injEq, Val.int.injEq, wipeE, lock_none, unlock_none, if_T, if_F, Bool.false_eq_true, c_ltI, c_leI, k_sl, k_part, k_pnone, MP.sl_str, tr_bl, k_par2C, g_tp2, tm_join, tm_append, tm_clearL, tm_clearD, tm_extend, tm_pop, tm_get, tm_split, tm_partition, Option.some.injEq, exists_eq_left', exists_eq_left]
    have hp3 := Nat.lt_of_lt_of_le hp1 (l2.trans l3).len
    have same : ∀ h4, Lx h1 h4 → K [some (.scr ns), some (.ref 0), some (.ref na), some (.ref a), some (.ref b), some (.ref ha), some (.ref ta), some (.ref s), some (.ref ma), some (.ref wa), none, some (.ref s'), some (.bl (decide (lessL M = lessL N ∧ lessL W' = lessL W))), none, none] h4 := by
      intro h4 l4
      refine hK _ _ ?_
      clear hK K
      replace X := X.lx l4
      replace A := A.lx l4
      replace Bb := Bb.lx l4
      replace Mm := Mm.lx l4
      replace Ww := Ww.lx l4
      replace T := T.le l4.le
      replace O := O.le l4.le
      replace t1 := t1.lx l4
      replace o1 := o1.lx l4
      have hp4 := Nat.lt_of_lt_of_le hp1 l4.len
      clear w2 w3 l2 l3 hp3
      -- comparisons
      have sym : decide (lessL N = lessL M ∧ lessL W = lessL W') = decide (lessL M = lessL N ∧ lessL W' = lessL W) := by
        rw [Bool.eq_iff_iff, decide_eq_true_eq, decide_eq_true_eq]
        exact ⟨fun ⟨x, y⟩ => ⟨x.symm, y.symm⟩, fun ⟨x, y⟩ => ⟨x.symm, y.symm⟩⟩
      with_reducible refine k_seqK fun K hK => ?_
      try simp -implicitDefEqProofs only [k_asg, k_setE, k_asg2, k_ret, k_expr, k_if, k_nx, k_bk, k_ct, k_var, k_lit, k_bin, k_then, k_bf, k_nil, k_cons, k_f1, k_new, k_al, k_tup, k_lst, k_call, k_and, k_or, k_not, k_ifx, k_tru, k_tcmp, k_tand, k_tor, k_tnot, k_chain, k_tchn, k_ttrue, k_fld, k_make, k_meth, k_bmX, k_sub, k_setF, k_lc, k_dc, k_for, k_ival, k_iitems, k_irng, k_turn, k_dturn, ok_ok, ok_opt, bl_bl, List.getElem?_cons_zero, List.getElem?_cons_succ, Option.join_some, List.set_cons_succ, List.set_cons_zero, own_int, own_str, b_add, b_sub, k_intI, c_eqI, c_neI, c_lt, c_ge, c_gt, List.length_cons, List.length_nil, List.cons_append, List.nil_append, Nat.zero_add, lim_ok, Nat.reduceAdd, Nat.reduceLeDiff, true_and, ne_eq, reduceCtorEq, not_false_eq_true, and_true, bk_str, List.cons.injEq, Val.int.injEq, wipeE, lock_none, unlock_none, if_T, if_F, Bool.false_eq_true, c_ltI, c_leI, k_sl, k_part, k_pnone, MP.sl_str, tr_bl, k_par2C, g_tp2, tm_join, tm_append, tm_clearL, tm_clearD, tm_extend, tm_pop, tm_get, tm_split, tm_partition, Option.some.injEq, exists_eq_left', exists_eq_left, eqT t1.2 (ty_ins o1.2) nf00]
      refine (eqC (wf := wf) (d := d + 6) T O gN.nd gW.nd two.g1.nd two.g2.nd).imp ?_
      rintro v h4 ⟨rfl, rfl⟩
      try simp -implicitDefEqProofs only [k_asg, k_setE, k_asg2, k_ret, k_expr, k_if, k_nx, k_bk, k_ct, k_var, k_lit, k_bin, k_then, k_bf, k_nil, k_cons, k_f1, k_new, k_al, k_tup, k_lst, k_call, k_and, k_or, k_not, k_ifx, k_tru, k_tcmp, k_tand, k_tor, k_tnot, k_chain, k_tchn, k_ttrue, k_fld, k_make, k_meth, k_bmX, k_sub, k_setF, k_lc, k_dc, k_for, k_ival, k_iitems, k_irng, k_turn, k_dturn, ok_ok, ok_opt, bl_bl, List.getElem?_cons_zero, List.getElem?_cons_succ, Option.join_some, List.set_cons_succ, List.set_cons_zero, own_int, own_str, b_add, b_sub, k_intI, c_eqI, c_neI, c_lt, c_ge, c_gt, List.length_cons, List.length_nil, List.cons_append, List.nil_append, Nat.zero_add, lim_ok, Nat.reduceAdd, Nat.reduceLeDiff, true_and, ne_eq, reduceCtorEq, not_false_eq_true, and_true, bk_str, List.cons.injEq, Val.int.injEq, wipeE, lock_none, unlock_none, if_T, if_F, Bool.false_eq_true, c_ltI, c_leI, k_sl, k_part, k_pnone, MP.sl_str, tr_bl, k_par2C, g_tp2, tm_join, tm_append, tm_clearL, tm_clearD, tm_extend, tm_pop, tm_get, tm_split, tm_partition, Option.some.injEq, exists_eq_left', exists_eq_left, c_neB, sym, bne_self_eq_false, Bool.bne_false, eqT o1.2 (ty_ins t1.2) nf00]
      refine (eqC (wf := wf) (d := d + 6) O T two.g1.nd two.g2.nd gN.nd gW.nd).imp ?_
      rintro v h4 ⟨rfl, rfl⟩
      try simp -implicitDefEqProofs only [k_asg, k_setE, k_asg2, k_ret, k_expr, k_if, k_nx, k_bk, k_ct, k_var, k_lit, k_bin, k_then, k_bf, k_nil, k_cons, k_f1, k_new, k_al, k_tup, k_lst, k_call, k_and, k_or, k_not, k_ifx, k_tru, k_tcmp, k_tand, k_tor, k_tnot, k_chain, k_tchn, k_ttrue, k_fld, k_make, k_meth, k_bmX, k_sub, k_setF, k_lc, k_dc, k_for, k_ival, k_iitems, k_irng, k_turn, k_dturn, ok_ok, ok_opt, bl_bl, List.getElem?_cons_zero, List.getElem?_cons_succ, Option.join_some, List.set_cons_succ, List.set_cons_zero, own_int, own_str, b_add, b_sub, k_intI, c_eqI, c_neI, c_lt, c_ge, c_gt, List.length_cons, List.length_nil, List.cons_append, List.nil_append, Nat.zero_add, lim_ok, Nat.reduceAdd, Nat.reduceLeDiff, true_and, ne_eq, reduceCtorEq, not_false_eq_true, and_true, bk_str, List.cons.injEq, Val.int.injEq, wipeE, lock_none, unlock_none, if_T, if_F, Bool.false_eq_true, c_ltI, c_leI, k_sl, k_part, k_pnone, MP.sl_str, tr_bl, k_par2C, g_tp2, tm_join, tm_append, tm_clearL, tm_clearD, tm_extend, tm_pop, tm_get, tm_split, tm_partition, Option.some.injEq, exists_eq_left', exists_eq_left, c_neB, sym, bne_self_eq_false, Bool.bne_false, neT t1.2 (ty_ins o1.2) nf00]
      refine (eqC (wf := wf) (d := d + 6) T O gN.nd gW.nd two.g1.nd two.g2.nd).imp ?_
      rintro v h4 ⟨rfl, rfl⟩
      have hno : ∀ e : Bool, ((e != true) == e) = false := by decide
      try simp -implicitDefEqProofs only [k_asg, k_setE, k_asg2, k_ret, k_expr, k_if, k_nx, k_bk, k_ct, k_var, k_lit, k_bin, k_then, k_bf, k_nil, k_cons, k_f1, k_new, k_al, k_tup, k_lst, k_call, k_and, k_or, k_not, k_ifx, k_tru, k_tcmp, k_tand, k_tor, k_tnot, k_chain, k_tchn, k_ttrue, k_fld, k_make, k_meth, k_bmX, k_sub, k_setF, k_lc, k_dc, k_for, k_ival, k_iitems, k_irng, k_turn, k_dturn, ok_ok, ok_opt, bl_bl, List.getElem?_cons_zero, List.getElem?_cons_succ, Option.join_some, List.set_cons_succ, List.set_cons_zero, own_int, own_str, b_add, b_sub, k_intI, c_eqI, c_neI, c_lt, c_ge, c_gt, List.length_cons, List.length_nil, List.cons_append, List.nil_append, Nat.zero_add, lim_ok, Nat.reduceAdd, Nat.reduceLeDiff, true_and, ne_eq, reduceCtorEq, not_false_eq_true, and_true, bk_str, List.cons.injEq, Val.int.injEq, wipeE, lock_none, unlock_none, if_T, if_F, Bool.false_eq_true, c_ltI, c_leI, k_sl, k_part, k_pnone, MP.sl_str, tr_bl, k_par2C, g_tp2, tm_join, tm_append, tm_clearL, tm_clearD, tm_extend, tm_pop, tm_get, tm_split, tm_partition, Option.some.injEq, exists_eq_left', exists_eq_left, c_eqB, sym, hno]
      refine hK _ _ ?_
      clear hK K hno
      -- sums
      have both : ∀ (h : MP.Heap) (p q : Nat) (P Q : List (Str × Int)) (ks : List Str) (env : MP.Env) (i j : Nat) (R : Val → MP.Heap → Prop), env.length = 15 → ks.Nodup → ks.length ≤ 6 → Aw h p (.dct (dI P)) → Aw h q (.dct (dI Q)) → i < 10 → j < 10 → env[i]? = some (some (.ref p)) → env[j]? = some (some (.ref q)) → 0 < h.length →
          (∀ r h', Lx h h' → Aw h' r (.dct (dI (ks.map fun x => (x, look0 P x + look0 Q x)))) → R (.ref r) h') →
          Ok (lcGo (lcTurn (gNm 10) tTrue (eTup (eCons (xVar 10) (eCons (xBin (ownBin (obF D.tb (C wf (d + 7)) .Add) (bop .add)) (eBm (bmT "get") (xVar i) (eCons (xVar 10) (eCons (xLit (.int 0)) aNil))) (eBm (bmT "get") (xVar j) (eCons (xVar 10) (eCons (xLit (.int 0)) aNil)))) aNil))) env) (ks.map Val.str) [] (lockH (h ++ [(false, B.lst (ks.map Val.str))]) (some h.length)))
            fun ys h2 => Ok (dictV (.ref (unlockH (h ++ [(false, B.lst (ks.map Val.str))]) h2 (some h.length)).length) (unlockH (h ++ [(false, B.lst (ks.map Val.str))]) h2 (some h.length) ++ [(false, B.lst ys)])) R := by
        intro h p q P Q ks env i j R hlen hks hk6 Ap Aq hi hj ei ej hp hR
        have l1 : Lx h (h ++ [(false, B.lst (ks.map Val.str))]) := Fr.app _ _ _
        have p1 := Aw.lock (Ap.lx l1) (k := h.length) (Nat.ne_of_gt Ap.lt)
        have q1 := Aw.lock (Aq.lx l1) (k := h.length) (Nat.ne_of_gt Aq.lt)
        generalize h ++ [(false, B.lst (ks.map Val.str))] = h1 at *
        refine (lc_funK (fun v => match v with | .str x => some (.tup [.str x, .int (look0 P x + look0 Q x)]) | _ => none) _ [] _ ?_).imp ?_
        · intro v hv h2 l2 K1 hK1
          obtain ⟨x, hx, rfl⟩ := List.mem_map.mp hv
          have e1 : (env.set 10 (some (Val.str x)))[10]? = some (some (.str x)) := by simp [hlen]
          have e2 : (env.set 10 (some (Val.str x)))[i]? = some (some (.ref p)) := by rw [List.getElem?_set_ne (by omega)]; exact ei
          have e3 : (env.set 10 (some (Val.str x)))[j]? = some (some (.ref q)) := by rw [List.getElem?_set_ne (by omega)]; exact ej
          have p2 := p1.lx l2
          have q2 := q1.lx l2
          have g1 : ∀ L : List (Str × Int), (lookK (dI L) (.inr x)).getD (.int 0) = .int (look0 L x) := fun L => by
            rw [look_dS]; unfold look0; cases L.lookup x <;> rfl
          try simp -implicitDefEqProofs only [k_asg, k_setE, k_asg2, k_ret, k_expr, k_if, k_nx, k_bk, k_ct, k_var, k_lit, k_bin, k_then, k_bf, k_nil, k_cons, k_f1, k_new, k_al, k_tup, k_lst, k_call, k_and, k_or, k_not, k_ifx, k_tru, k_tcmp, k_tand, k_tor, k_tnot, k_chain, k_tchn, k_ttrue, k_fld, k_make, k_meth, k_bmX, k_sub, k_setF, k_lc, k_dc, k_for, k_ival, k_iitems, k_irng, k_turn, k_dturn, ok_ok, ok_opt, bl_bl, List.getElem?_cons_zero, List.getElem?_cons_succ, Option.join_some, List.set_cons_succ, List.set_cons_zero, own_int, own_str, b_add, b_sub, k_intI, c_eqI, c_neI, c_lt, c_ge, c_gt, List.length_cons, List.length_nil, List.cons_append, List.nil_append, Nat.zero_add, lim_ok, Nat.reduceAdd, Nat.reduceLeDiff, true_and, ne_eq, reduceCtorEq, not_false_eq_true, and_true, bk_str, List.cons.injEq, Val.int.injEq, wipeE, lock_none, unlock_none, if_T, if_F, Bool.false_eq_true, c_ltI, c_leI, k_sl, k_part, k_pnone, MP.sl_str, tr_bl, k_par2C, g_tp2, tm_join, tm_append, tm_clearL, tm_clearD, tm_extend, tm_pop, tm_get, tm_split, tm_partition, Option.some.injEq, exists_eq_left', exists_eq_left, e1, e2, e3, bk_d p2.2, bk_d q2.2, m_get p2.2, m_get q2.2, g1]
          exact hK1 _ (Fr.refl _ _)
        · rintro ys h2 ⟨l2, rfl⟩
          have l3 := l1.trans (Fr.unlock l2)
          generalize unlockH h1 h2 (some h.length) = h3 at l3 ⊢
          have e : ∀ ks : List Str, (ks.map Val.str).filterMap (fun v => match v with | .str x => some (Val.tup [.str x, .int (look0 P x + look0 Q x)]) | _ => none) = (ks.map fun x => (x, look0 P x + look0 Q x)).map fun p => Val.tup [.str p.1, .int p.2] := fun ks => by
            induction ks with
            | nil => rfl
            | cons k ks ih => rw [List.map_cons, List.filterMap_cons, ih]; rfl
          have nk : ((ks.map fun x => (x, look0 P x + look0 Q x)).map (·.1)).Nodup := by
            rw [List.map_map, show ((fun p : Str × Int => p.1) ∘ fun x => (x, look0 P x + look0 Q x)) = id from rfl, List.map_id]; exact hks
          rw [List.nil_append, e, dict_pairs (f := Val.int) (rd_new rfl) nk, k_al]
          have hp3 := Nat.lt_of_lt_of_le hp l3.len
          exact hR _ _ ((l3.trans (Fr.app _ _ _)).trans (Fr.app _ _ _)) (Aw.new (by simp))
      have x4 : (xs.map Val.str).take 4 = (xs.take 4).map Val.str := (List.map_take ..).symm
      have x3 : (xs.map Val.str).drop 3 = (xs.drop 3).map Val.str := (List.map_drop ..).symm
      with_reducible refine k_seqK fun K hK => ?_
      try simp -implicitDefEqProofs only [k_asg, k_setE, k_asg2, k_ret, k_expr, k_if, k_nx, k_bk, k_ct, k_var, k_lit, k_bin, k_then, k_bf, k_nil, k_cons, k_f1, k_new, k_al, k_tup, k_lst, k_call, k_and, k_or, k_not, k_ifx, k_tru, k_tcmp, k_tand, k_tor, k_tnot, k_chain, k_tchn, k_ttrue, k_fld, k_make, k_meth, k_bmX, k_sub, k_setF, k_lc, k_dc, k_for, k_ival, k_iitems, k_irng, k_turn, k_dturn, ok_ok, ok_opt, bl_bl, List.getElem?_cons_zero, List.getElem?_cons_succ, Option.join_some, List.set_cons_succ, List.set_cons_zero, own_int, own_str, b_add, b_sub, k_intI, c_eqI, c_neI, c_lt, c_ge, c_gt, List.length_cons, List.length_nil, List.cons_append, List.nil_append, Nat.zero_add, lim_ok, Nat.reduceAdd, Nat.reduceLeDiff, true_and, ne_eq, reduceCtorEq, not_false_eq_true, and_true, bk_str, List.cons.injEq, Val.int.injEq, wipeE, lock_none, unlock_none, if_T, if_F, Bool.false_eq_true, c_ltI, c_leI, k_sl, k_part, k_pnone, MP.sl_str, tr_bl, k_par2C, g_tp2, tm_join, tm_append, tm_clearL, tm_clearD, tm_extend, tm_pop, tm_get, tm_split, tm_partition, Option.some.injEq, exists_eq_left', exists_eq_left, sl_lst X.at.2, cut_hi4, x4]
      try simp -implicitDefEqProofs only [k_asg, k_setE, k_asg2, k_ret, k_expr, k_if, k_nx, k_bk, k_ct, k_var, k_lit, k_bin, k_then, k_bf, k_nil, k_cons, k_f1, k_new, k_al, k_tup, k_lst, k_call, k_and, k_or, k_not, k_ifx, k_tru, k_tcmp, k_tand, k_tor, k_tnot, k_chain, k_tchn, k_ttrue, k_fld, k_make, k_meth, k_bmX, k_sub, k_setF, k_lc, k_dc, k_for, k_ival, k_iitems, k_irng, k_turn, k_dturn, ok_ok, ok_opt, bl_bl, List.getElem?_cons_zero, List.getElem?_cons_succ, Option.join_some, List.set_cons_succ, List.set_cons_zero, own_int, own_str, b_add, b_sub, k_intI, c_eqI, c_neI, c_lt, c_ge, c_gt, List.length_cons, List.length_nil, List.cons_append, List.nil_append, Nat.zero_add, lim_ok, Nat.reduceAdd, Nat.reduceLeDiff, true_and, ne_eq, reduceCtorEq, not_false_eq_true, and_true, bk_str, List.cons.injEq, Val.int.injEq, wipeE, lock_none, unlock_none, if_T, if_F, Bool.false_eq_true, c_ltI, c_leI, k_sl, k_part, k_pnone, MP.sl_str, tr_bl, k_par2C, g_tp2, tm_join, tm_append, tm_clearL, tm_clearD, tm_extend, tm_pop, tm_get, tm_split, tm_partition, Option.some.injEq, exists_eq_left', exists_eq_left, src_lst (rd_new (h := h4) rfl)]
      refine ⟨by rw [List.length_map, List.length_take]; exact le_lim (by omega), ?_⟩
      refine both h4 a ma N M (xs.take 4) _ 3 8 _ (by rfl) n4 (by rw [List.length_take]; omega) A Mm (by decide) (by decide) (by rfl) (by rfl) hp4 fun r h5 l5 R5 => ?_
      refine hK _ _ ?_
      clear hK K
      have hp5 := Nat.lt_of_lt_of_le hp4 l5.len
      with_reducible refine k_seqK fun K hK => ?_
      try simp -implicitDefEqProofs only [k_asg, k_setE, k_asg2, k_ret, k_expr, k_if, k_nx, k_bk, k_ct, k_var, k_lit, k_bin, k_then, k_bf, k_nil, k_cons, k_f1, k_new, k_al, k_tup, k_lst, k_call, k_and, k_or, k_not, k_ifx, k_tru, k_tcmp, k_tand, k_tor, k_tnot, k_chain, k_tchn, k_ttrue, k_fld, k_make, k_meth, k_bmX, k_sub, k_setF, k_lc, k_dc, k_for, k_ival, k_iitems, k_irng, k_turn, k_dturn, ok_ok, ok_opt, bl_bl, List.getElem?_cons_zero, List.getElem?_cons_succ, Option.join_some, List.set_cons_succ, List.set_cons_zero, own_int, own_str, b_add, b_sub, k_intI, c_eqI, c_neI, c_lt, c_ge, c_gt, List.length_cons, List.length_nil, List.cons_append, List.nil_append, Nat.zero_add, lim_ok, Nat.reduceAdd, Nat.reduceLeDiff, true_and, ne_eq, reduceCtorEq, not_false_eq_true, and_true, bk_str, List.cons.injEq, Val.int.injEq, wipeE, lock_none, unlock_none, if_T, if_F, Bool.false_eq_true, c_ltI, c_leI, k_sl, k_part, k_pnone, MP.sl_str, tr_bl, k_par2C, g_tp2, tm_join, tm_append, tm_clearL, tm_clearD, tm_extend, tm_pop, tm_get, tm_split, tm_partition, Option.some.injEq, exists_eq_left', exists_eq_left, sl_lst (X.lx l5).at.2, cut_lo3, x3]
      try simp -implicitDefEqProofs only [k_asg, k_setE, k_asg2, k_ret, k_expr, k_if, k_nx, k_bk, k_ct, k_var, k_lit, k_bin, k_then, k_bf, k_nil, k_cons, k_f1, k_new, k_al, k_tup, k_lst, k_call, k_and, k_or, k_not, k_ifx, k_tru, k_tcmp, k_tand, k_tor, k_tnot, k_chain, k_tchn, k_ttrue, k_fld, k_make, k_meth, k_bmX, k_sub, k_setF, k_lc, k_dc, k_for, k_ival, k_iitems, k_irng, k_turn, k_dturn, ok_ok, ok_opt, bl_bl, List.getElem?_cons_zero, List.getElem?_cons_succ, Option.join_some, List.set_cons_succ, List.set_cons_zero, own_int, own_str, b_add, b_sub, k_intI, c_eqI, c_neI, c_lt, c_ge, c_gt, List.length_cons, List.length_nil, List.cons_append, List.nil_append, Nat.zero_add, lim_ok, Nat.reduceAdd, Nat.reduceLeDiff, true_and, ne_eq, reduceCtorEq, not_false_eq_true, and_true, bk_str, List.cons.injEq, Val.int.injEq, wipeE, lock_none, unlock_none, if_T, if_F, Bool.false_eq_true, c_ltI, c_leI, k_sl, k_part, k_pnone, MP.sl_str, tr_bl, k_par2C, g_tp2, tm_join, tm_append, tm_clearL, tm_clearD, tm_extend, tm_pop, tm_get, tm_split, tm_partition, Option.some.injEq, exists_eq_left', exists_eq_left, src_lst (rd_new (h := h5) rfl)]
      refine ⟨by rw [List.length_map, List.length_drop]; exact le_lim (by omega), ?_⟩
      refine both h5 b wa W W' (xs.drop 3) _ 4 9 _ (by rfl) n3 (by rw [List.length_drop]; omega) (Bb.lx l5) (Ww.lx l5) (by decide) (by decide) (by rfl) (by rfl) hp5 fun r' h6 l6 R6 => ?_
      refine hK _ _ ?_
      clear hK K both
      have l7 := l5.trans l6
      have hp6 := Nat.lt_of_lt_of_le hp5 l6.len
      have R6' := R5.lx l6
      -- is_right of the sum
      with_reducible refine k_seqK fun K hK => ?_
      try simp -implicitDefEqProofs only [k_asg, k_setE, k_asg2, k_ret, k_expr, k_if, k_nx, k_bk, k_ct, k_var, k_lit, k_bin, k_then, k_bf, k_nil, k_cons, k_f1, k_new, k_al, k_tup, k_lst, k_call, k_and, k_or, k_not, k_ifx, k_tru, k_tcmp, k_tand, k_tor, k_tnot, k_chain, k_tchn, k_ttrue, k_fld, k_make, k_meth, k_bmX, k_sub, k_setF, k_lc, k_dc, k_for, k_ival, k_iitems, k_irng, k_turn, k_dturn, ok_ok, ok_opt, bl_bl, List.getElem?_cons_zero, List.getElem?_cons_succ, Option.join_some, List.set_cons_succ, List.set_cons_zero, own_int, own_str, b_add, b_sub, k_intI, c_eqI, c_neI, c_lt, c_ge, c_gt, List.length_cons, List.length_nil, List.cons_append, List.nil_append, Nat.zero_add, lim_ok, Nat.reduceAdd, Nat.reduceLeDiff, true_and, ne_eq, reduceCtorEq, not_false_eq_true, and_true, bk_str, List.cons.injEq, Val.int.injEq, wipeE, lock_none, unlock_none, if_T, if_F, Bool.false_eq_true, c_ltI, c_leI, k_sl, k_part, k_pnone, MP.sl_str, tr_bl, k_par2C, g_tp2, tm_join, tm_append, tm_clearL, tm_clearD, tm_extend, tm_pop, tm_get, tm_split, tm_partition, Option.some.injEq, exists_eq_left', exists_eq_left]
      rw [addT (t1.lx l7).2 (o1.lx l7).2]
      have f1 := two.f1
      have f2 := two.f2
      refine (addC (wf := wf) (d := d + 4) hp6 (T.le l7.le) (O.le l7.le) gN gW two.g1 two.g2 pN two.pos (by omega) (by omega)).imp ?_
      rintro v h8 ⟨U, l8⟩
      try simp -implicitDefEqProofs only [k_asg, k_setE, k_asg2, k_ret, k_expr, k_if, k_nx, k_bk, k_ct, k_var, k_lit, k_bin, k_then, k_bf, k_nil, k_cons, k_f1, k_new, k_al, k_tup, k_lst, k_call, k_and, k_or, k_not, k_ifx, k_tru, k_tcmp, k_tand, k_tor, k_tnot, k_chain, k_tchn, k_ttrue, k_fld, k_make, k_meth, k_bmX, k_sub, k_setF, k_lc, k_dc, k_for, k_ival, k_iitems, k_irng, k_turn, k_dturn, ok_ok, ok_opt, bl_bl, List.getElem?_cons_zero, List.getElem?_cons_succ, Option.join_some, List.set_cons_succ, List.set_cons_zero, own_int, own_str, b_add, b_sub, k_intI, c_eqI, c_neI, c_lt, c_ge, c_gt, List.length_cons, List.length_nil, List.cons_append, List.nil_append, Nat.zero_add, lim_ok, Nat.reduceAdd, Nat.reduceLeDiff, true_and, ne_eq, reduceCtorEq, not_false_eq_true, and_true, bk_str, List.cons.injEq, Val.int.injEq, wipeE, lock_none, unlock_none, if_T, if_F, Bool.false_eq_true, c_ltI, c_leI, k_sl, k_part, k_pnone, MP.sl_str, tr_bl, k_par2C, g_tp2, tm_join, tm_append, tm_clearL, tm_clearD, tm_extend, tm_pop, tm_get, tm_split, tm_partition, Option.some.injEq, exists_eq_left', exists_eq_left]
      have ek : ∀ (P Q : List (Str × Int)) (ks : List Str), (ks.map fun x => (x, look0 P x + look0 Q x)).map (·.1) = ks := fun P Q ks => by rw [List.map_map]; exact List.map_id'' (fun _ => rfl) _
      have g4 : Good1 ((xs.take 4).map fun x => (x, look0 N x + look0 M x)) := ⟨by rw [ek]; exact n4, fun p hp => (hnm _ (List.mem_of_mem_take (by rw [← ek N M (xs.take 4)]; exact List.mem_map.mpr ⟨p, hp, rfl⟩))).is, by rw [List.length_map, List.length_take]; omega⟩
      have g3 : Good1 ((xs.drop 3).map fun x => (x, look0 W x + look0 W' x)) := ⟨by rw [ek]; exact n3, fun p hp => (hnm _ (List.mem_of_mem_drop (by rw [← ek W W' (xs.drop 3)]; exact List.mem_map.mpr ⟨p, hp, rfl⟩))).is, by rw [List.length_map, List.length_drop]; omega⟩
      refine (isRight (wf := wf) (d := d + 5) (Nat.lt_of_lt_of_le hp6 l8.len) U (R6'.lx l8).at (R6.lx l8).at (sum_less n4 gN.nd two.g1.nd (fun x hx => by rw [← kN]; exact hx) two.k1) (sum_less n3 gW.nd two.g2.nd (fun x hx => by rw [← kW]; exact hx) two.k2) (addL_nodup _ _ (lessL_nodup N gN.nd)) g4 g3
        (fun h => nobody (hnm _ (List.mem_of_mem_take (by rw [← ek N M (xs.take 4)]; exact h))) rfl) (fun h => nobody (hnm _ (List.mem_of_mem_drop (by rw [← ek W W' (xs.drop 3)]; exact h))) rfl)).imp ?_
      rintro v h9 ⟨rfl, l9⟩
      try simp -implicitDefEqProofs only [k_asg, k_setE, k_asg2, k_ret, k_expr, k_if, k_nx, k_bk, k_ct, k_var, k_lit, k_bin, k_then, k_bf, k_nil, k_cons, k_f1, k_new, k_al, k_tup, k_lst, k_call, k_and, k_or, k_not, k_ifx, k_tru, k_tcmp, k_tand, k_tor, k_tnot, k_chain, k_tchn, k_ttrue, k_fld, k_make, k_meth, k_bmX, k_sub, k_setF, k_lc, k_dc, k_for, k_ival, k_iitems, k_irng, k_turn, k_dturn, ok_ok, ok_opt, bl_bl, List.getElem?_cons_zero, List.getElem?_cons_succ, Option.join_some, List.set_cons_succ, List.set_cons_zero, own_int, own_str, b_add, b_sub, k_intI, c_eqI, c_neI, c_lt, c_ge, c_gt, List.length_cons, List.length_nil, List.cons_append, List.nil_append, Nat.zero_add, lim_ok, Nat.reduceAdd, Nat.reduceLeDiff, true_and, ne_eq, reduceCtorEq, not_false_eq_true, and_true, bk_str, List.cons.injEq, Val.int.injEq, wipeE, lock_none, unlock_none, if_T, if_F, Bool.false_eq_true, c_ltI, c_leI, k_sl, k_part, k_pnone, MP.sl_str, tr_bl, k_par2C, g_tp2, tm_join, tm_append, tm_clearL, tm_clearD, tm_extend, tm_pop, tm_get, tm_split, tm_partition, Option.some.injEq, exists_eq_left', exists_eq_left, if_true, Bool.not_true]
      have l10 := (l7.trans l8).trans l9
      have hp9 := Nat.lt_of_lt_of_le hp4 l10.len
      replace A := A.lx l10
      replace Bb := Bb.lx l10
      replace T := T.le l10.le
      replace t1 := t1.lx l10
      clear X Mm Ww O o1 R5 R6 R6' U l5 l6 l7 l8 l9 l10
      refine (isRight (wf := wf) (d := d + 5) hp9 T A.at Bb.at rfl rfl gN.nd gN gW oN oW).imp ?_
      rintro v h10 ⟨rfl, l11⟩
      try simp -implicitDefEqProofs only [k_asg, k_setE, k_asg2, k_ret, k_expr, k_if, k_nx, k_bk, k_ct, k_var, k_lit, k_bin, k_then, k_bf, k_nil, k_cons, k_f1, k_new, k_al, k_tup, k_lst, k_call, k_and, k_or, k_not, k_ifx, k_tru, k_tcmp, k_tand, k_tor, k_tnot, k_chain, k_tchn, k_ttrue, k_fld, k_make, k_meth, k_bmX, k_sub, k_setF, k_lc, k_dc, k_for, k_ival, k_iitems, k_irng, k_turn, k_dturn, ok_ok, ok_opt, bl_bl, List.getElem?_cons_zero, List.getElem?_cons_succ, Option.join_some, List.set_cons_succ, List.set_cons_zero, own_int, own_str, b_add, b_sub, k_intI, c_eqI, c_neI, c_lt, c_ge, c_gt, List.length_cons, List.length_nil, List.cons_append, List.nil_append, Nat.zero_add, lim_ok, Nat.reduceAdd, Nat.reduceLeDiff, true_and, ne_eq, reduceCtorEq, not_false_eq_true, and_true, bk_str, List.cons.injEq, Val.int.injEq, wipeE, lock_none, unlock_none, if_T, if_F, Bool.false_eq_true, c_ltI, c_leI, k_sl, k_part, k_pnone, MP.sl_str, tr_bl, k_par2C, g_tp2, tm_join, tm_append, tm_clearL, tm_clearD, tm_extend, tm_pop, tm_get, tm_split, tm_partition, Option.some.injEq, exists_eq_left', exists_eq_left, if_true, Bool.not_true]
      refine hK _ _ ?_
      clear hK K
      replace A := A.lx l11
      replace T := T.le l11.le
      replace t1 := t1.lx l11
      have hp10 := Nat.lt_of_lt_of_le hp9 l11.len
      clear l11 Bb
      have g0 : Good1 [] := ⟨List.nodup_nil, fun _ h => absurd h List.not_mem_nil, by decide⟩
      -- empty ones
      with_reducible refine k_seqK fun K hK => ?_
      try simp -implicitDefEqProofs only [k_asg, k_setE, k_asg2, k_ret, k_expr, k_if, k_nx, k_bk, k_ct, k_var, k_lit, k_bin, k_then, k_bf, k_nil, k_cons, k_f1, k_new, k_al, k_tup, k_lst, k_call, k_and, k_or, k_not, k_ifx, k_tru, k_tcmp, k_tand, k_tor, k_tnot, k_chain, k_tchn, k_ttrue, k_fld, k_make, k_meth, k_bmX, k_sub, k_setF, k_lc, k_dc, k_for, k_ival, k_iitems, k_irng, k_turn, k_dturn, ok_ok, ok_opt, bl_bl, List.getElem?_cons_zero, List.getElem?_cons_succ, Option.join_some, List.set_cons_succ, List.set_cons_zero, own_int, own_str, b_add, b_sub, k_intI, c_eqI, c_neI, c_lt, c_ge, c_gt, List.length_cons, List.length_nil, List.cons_append, List.nil_append, Nat.zero_add, lim_ok, Nat.reduceAdd, Nat.reduceLeDiff, true_and, ne_eq, reduceCtorEq, not_false_eq_true, and_true, bk_str, List.cons.injEq, Val.int.injEq, wipeE, lock_none, unlock_none, if_T, if_F, Bool.false_eq_true, c_ltI, c_leI, k_sl, k_part, k_pnone, MP.sl_str, tr_bl, k_par2C, g_tp2, tm_join, tm_append, tm_clearL, tm_clearD, tm_extend, tm_pop, tm_get, tm_split, tm_partition, Option.some.injEq, exists_eq_left', exists_eq_left]
      refine make_tab (init (d := d + 5)) hp10 (.dct A.at) .non gN g0 pN fun h11 U1 l11 => ?_
      have hp11 := Nat.lt_of_lt_of_le hp10 l11.len
      refine make_tab (init (d := d + 5)) hp11 (.dct (A.lx l11).at) .non gN g0 pN fun h12 U2 l12 => ?_
      refine neSame (d := d + 6) (U1.le l12.le) U2 gN.nd g0.nd ?_
      try simp -implicitDefEqProofs only [k_asg, k_setE, k_asg2, k_ret, k_expr, k_if, k_nx, k_bk, k_ct, k_var, k_lit, k_bin, k_then, k_bf, k_nil, k_cons, k_f1, k_new, k_al, k_tup, k_lst, k_call, k_and, k_or, k_not, k_ifx, k_tru, k_tcmp, k_tand, k_tor, k_tnot, k_chain, k_tchn, k_ttrue, k_fld, k_make, k_meth, k_bmX, k_sub, k_setF, k_lc, k_dc, k_for, k_ival, k_iitems, k_irng, k_turn, k_dturn, ok_ok, ok_opt, bl_bl, List.getElem?_cons_zero, List.getElem?_cons_succ, Option.join_some, List.set_cons_succ, List.set_cons_zero, own_int, own_str, b_add, b_sub, k_intI, c_eqI, c_neI, c_lt, c_ge, c_gt, List.length_cons, List.length_nil, List.cons_append, List.nil_append, Nat.zero_add, lim_ok, Nat.reduceAdd, Nat.reduceLeDiff, true_and, ne_eq, reduceCtorEq, not_false_eq_true, and_true, bk_str, List.cons.injEq, Val.int.injEq, wipeE, lock_none, unlock_none, if_T, if_F, Bool.false_eq_true, c_ltI, c_leI, k_sl, k_part, k_pnone, MP.sl_str, tr_bl, k_par2C, g_tp2, tm_join, tm_append, tm_clearL, tm_clearD, tm_extend, tm_pop, tm_get, tm_split, tm_partition, Option.some.injEq, exists_eq_left', exists_eq_left]
      have hp12 := Nat.lt_of_lt_of_le hp11 l12.len
      have m1 : Lx h12 (h12 ++ [(false, B.dct [])]) := Fr.app _ _ _
      have l13 := (l11.trans l12).trans m1
      have E1 : Aw (h12 ++ [(false, B.dct [])]) h12.length (.dct (dI [])) := Aw.new hp12
      generalize h12.length = e1 at E1 ⊢
      generalize h12 ++ [(false, B.dct [])] = h13 at E1 l13 ⊢
      have hp13 := Nat.lt_of_lt_of_le hp10 l13.len
      refine make_tab (init (d := d + 5)) hp13 (.dct (A.lx l13).at) (.dct E1.at) gN g0 pN fun h14 U3 l14 => ?_
      have hp14 := Nat.lt_of_lt_of_le hp13 l14.len
      have m2 : Lx h14 (h14 ++ [(false, B.lst [])]) := Fr.app _ _ _
      have E2 : Aw (h14 ++ [(false, B.lst [])]) h14.length (.lst []) := Aw.new hp14
      generalize h14.length = e2 at E2 ⊢
      replace U3 := U3.le m2.le
      have l15 := (l13.trans l14).trans m2
      generalize h14 ++ [(false, B.lst [])] = h15 at E2 U3 l15 ⊢
      refine make_tab (init (d := d + 5)) (Nat.lt_of_lt_of_le hp10 l15.len) (.dct (A.lx l15).at) (.lst E2.at) gN g0 pN fun h16 U4 l16 => ?_
      refine neSame (d := d + 6) (U3.le l16.le) U4 gN.nd g0.nd ?_
      try simp -implicitDefEqProofs only [k_asg, k_setE, k_asg2, k_ret, k_expr, k_if, k_nx, k_bk, k_ct, k_var, k_lit, k_bin, k_then, k_bf, k_nil, k_cons, k_f1, k_new, k_al, k_tup, k_lst, k_call, k_and, k_or, k_not, k_ifx, k_tru, k_tcmp, k_tand, k_tor, k_tnot, k_chain, k_tchn, k_ttrue, k_fld, k_make, k_meth, k_bmX, k_sub, k_setF, k_lc, k_dc, k_for, k_ival, k_iitems, k_irng, k_turn, k_dturn, ok_ok, ok_opt, bl_bl, List.getElem?_cons_zero, List.getElem?_cons_succ, Option.join_some, List.set_cons_succ, List.set_cons_zero, own_int, own_str, b_add, b_sub, k_intI, c_eqI, c_neI, c_lt, c_ge, c_gt, List.length_cons, List.length_nil, List.cons_append, List.nil_append, Nat.zero_add, lim_ok, Nat.reduceAdd, Nat.reduceLeDiff, true_and, ne_eq, reduceCtorEq, not_false_eq_true, and_true, bk_str, List.cons.injEq, Val.int.injEq, wipeE, lock_none, unlock_none, if_T, if_F, Bool.false_eq_true, c_ltI, c_leI, k_sl, k_part, k_pnone, MP.sl_str, tr_bl, k_par2C, g_tp2, tm_join, tm_append, tm_clearL, tm_clearD, tm_extend, tm_pop, tm_get, tm_split, tm_partition, Option.some.injEq, exists_eq_left', exists_eq_left]
      refine hK _ _ ?_
      clear hK K
      have l17 := l15.trans l16
      replace A := A.lx l17
      replace T := T.le l17.le
      replace t1 := t1.lx l17
      have hp16 := Nat.lt_of_lt_of_le hp10 l17.len
      clear U1 U2 U3 U4 E1 E2 l17 l16 l15 l14 l13 l12 l11 m1 m2
      -- the end
      try simp -implicitDefEqProofs only [k_asg, k_setE, k_asg2, k_ret, k_expr, k_if, k_nx, k_bk, k_ct, k_var, k_lit, k_bin, k_then, k_bf, k_nil, k_cons, k_f1, k_new, k_al, k_tup, k_lst, k_call, k_and, k_or, k_not, k_ifx, k_tru, k_tcmp, k_tand, k_tor, k_tnot, k_chain, k_tchn, k_ttrue, k_fld, k_make, k_meth, k_bmX, k_sub, k_setF, k_lc, k_dc, k_for, k_ival, k_iitems, k_irng, k_turn, k_dturn, ok_ok, ok_opt, bl_bl, List.getElem?_cons_zero, List.getElem?_cons_succ, Option.join_some, List.set_cons_succ, List.set_cons_zero, own_int, own_str, b_add, b_sub, k_intI, c_eqI, c_neI, c_lt, c_ge, c_gt, List.length_cons, List.length_nil, List.cons_append, List.nil_append, Nat.zero_add, lim_ok, Nat.reduceAdd, Nat.reduceLeDiff, true_and, ne_eq, reduceCtorEq, not_false_eq_true, and_true, bk_str, List.cons.injEq, Val.int.injEq, wipeE, lock_none, unlock_none, if_T, if_F, Bool.false_eq_true, c_ltI, c_leI, k_sl, k_part, k_pnone, MP.sl_str, tr_bl, k_par2C, g_tp2, tm_join, tm_append, tm_clearL, tm_clearD, tm_extend, tm_pop, tm_get, tm_split, tm_partition, Option.some.injEq, exists_eq_left', exists_eq_left, k_seq]
      have hp17 : 0 < (h16 ++ [(false, B.dct [])]).length := by simp
      have m1 : Lx h16 (h16 ++ [(false, B.dct [])]) := Fr.app _ _ _
      have E1 : Aw (h16 ++ [(false, B.dct [])]) h16.length (.dct (dI [])) := Aw.new hp16
      refine make_tab (init (d := d + 5)) hp17 (.dct E1.at) .non g0 g0 (fun _ h => absurd h List.not_mem_nil) fun h17 U1 l17 => ?_
      have l18 := m1.trans l17
      clear E1 m1 l17 hp17
      try simp -implicitDefEqProofs only [k_asg, k_setE, k_asg2, k_ret, k_expr, k_if, k_nx, k_bk, k_ct, k_var, k_lit, k_bin, k_then, k_bf, k_nil, k_cons, k_f1, k_new, k_al, k_tup, k_lst, k_call, k_and, k_or, k_not, k_ifx, k_tru, k_tcmp, k_tand, k_tor, k_tnot, k_chain, k_tchn, k_ttrue, k_fld, k_make, k_meth, k_bmX, k_sub, k_setF, k_lc, k_dc, k_for, k_ival, k_iitems, k_irng, k_turn, k_dturn, ok_ok, ok_opt, bl_bl, List.getElem?_cons_zero, List.getElem?_cons_succ, Option.join_some, List.set_cons_succ, List.set_cons_zero, own_int, own_str, b_add, b_sub, k_intI, c_eqI, c_neI, c_lt, c_ge, c_gt, List.length_cons, List.length_nil, List.cons_append, List.nil_append, Nat.zero_add, lim_ok, Nat.reduceAdd, Nat.reduceLeDiff, true_and, ne_eq, reduceCtorEq, not_false_eq_true, and_true, bk_str, List.cons.injEq, Val.int.injEq, wipeE, lock_none, unlock_none, if_T, if_F, Bool.false_eq_true, c_ltI, c_leI, k_sl, k_part, k_pnone, MP.sl_str, tr_bl, k_par2C, g_tp2, tm_join, tm_append, tm_clearL, tm_clearD, tm_extend, tm_pop, tm_get, tm_split, tm_partition, Option.some.injEq, exists_eq_left', exists_eq_left]
      have hp18 := Nat.lt_of_lt_of_le hp16 l18.len
      have m2 : Lx h17 (h17 ++ [(false, B.dct [])] ++ [(false, B.dct [])]) := (Fr.app _ _ _).trans (Fr.app _ _ _)
      have E2 : Aw (h17 ++ [(false, B.dct [])] ++ [(false, B.dct [])]) h17.length (.dct (dI [])) := (Aw.new hp18).lx (Fr.app _ _ _)
      have E3 : Aw (h17 ++ [(false, B.dct [])] ++ [(false, B.dct [])]) (h17 ++ [(false, B.dct [])]).length (.dct (dI [])) := Aw.new (by simp)
      refine make_tab (init (d := d + 5)) (by simp) (.dct E2.at) (.dct E3.at) g0 g0 (fun _ h => absurd h List.not_mem_nil) fun h19 U2 l19 => ?_
      have l20 := l18.trans (m2.trans l19)
      refine eqSame (d := d + 6) (U1.le (m2.trans l19).le) U2 g0.nd g0.nd ?_
      clear U1 U2 E2 E3 m2 l19 l18
      have hp19 := Nat.lt_of_lt_of_le hp16 l20.len
      try simp -implicitDefEqProofs only [k_asg, k_setE, k_asg2, k_ret, k_expr, k_if, k_nx, k_bk, k_ct, k_var, k_lit, k_bin, k_then, k_bf, k_nil, k_cons, k_f1, k_new, k_al, k_tup, k_lst, k_call, k_and, k_or, k_not, k_ifx, k_tru, k_tcmp, k_tand, k_tor, k_tnot, k_chain, k_tchn, k_ttrue, k_fld, k_make, k_meth, k_bmX, k_sub, k_setF, k_lc, k_dc, k_for, k_ival, k_iitems, k_irng, k_turn, k_dturn, ok_ok, ok_opt, bl_bl, List.getElem?_cons_zero, List.getElem?_cons_succ, Option.join_some, List.set_cons_succ, List.set_cons_zero, own_int, own_str, b_add, b_sub, k_intI, c_eqI, c_neI, c_lt, c_ge, c_gt, List.length_cons, List.length_nil, List.cons_append, List.nil_append, Nat.zero_add, lim_ok, Nat.reduceAdd, Nat.reduceLeDiff, true_and, ne_eq, reduceCtorEq, not_false_eq_true, and_true, bk_str, List.cons.injEq, Val.int.injEq, wipeE, lock_none, unlock_none, if_T, if_F, Bool.false_eq_true, c_ltI, c_leI, k_sl, k_part, k_pnone, MP.sl_str, tr_bl, k_par2C, g_tp2, tm_join, tm_append, tm_clearL, tm_clearD, tm_extend, tm_pop, tm_get, tm_split, tm_partition, Option.some.injEq, exists_eq_left', exists_eq_left, if_true]
      have m3 : Lx h19 (h19 ++ [(false, B.dct [])]) := Fr.app _ _ _
      have E4 : Aw (h19 ++ [(false, B.dct [])]) h19.length (.dct (dI [])) := Aw.new hp19
      refine make_tabA (init (d := d + 5)) (by simp) (.dct E4.at) .non g0 g0 (fun _ h => absurd h List.not_mem_nil) fun h21 ra2 ca2 z1 z2 z3 _ _ l21 => ?_
      have l22 := (l20.trans m3).trans l21
      try simp -implicitDefEqProofs only [k_asg, k_setE, k_asg2, k_ret, k_expr, k_if, k_nx, k_bk, k_ct, k_var, k_lit, k_bin, k_then, k_bf, k_nil, k_cons, k_f1, k_new, k_al, k_tup, k_lst, k_call, k_and, k_or, k_not, k_ifx, k_tru, k_tcmp, k_tand, k_tor, k_tnot, k_chain, k_tchn, k_ttrue, k_fld, k_make, k_meth, k_bmX, k_sub, k_setF, k_lc, k_dc, k_for, k_ival, k_iitems, k_irng, k_turn, k_dturn, ok_ok, ok_opt, bl_bl, List.getElem?_cons_zero, List.getElem?_cons_succ, Option.join_some, List.set_cons_succ, List.set_cons_zero, own_int, own_str, b_add, b_sub, k_intI, c_eqI, c_neI, c_lt, c_ge, c_gt, List.length_cons, List.length_nil, List.cons_append, List.nil_append, Nat.zero_add, lim_ok, Nat.reduceAdd, Nat.reduceLeDiff, true_and, ne_eq, reduceCtorEq, not_false_eq_true, and_true, bk_str, List.cons.injEq, Val.int.injEq, wipeE, lock_none, unlock_none, if_T, if_F, Bool.false_eq_true, c_ltI, c_leI, k_sl, k_part, k_pnone, MP.sl_str, tr_bl, k_par2C, g_tp2, tm_join, tm_append, tm_clearL, tm_clearD, tm_extend, tm_pop, tm_get, tm_split, tm_partition, Option.some.injEq, exists_eq_left', exists_eq_left, in_of z1.2]
      refine ⟨_, cm9 _, nf5 _ _, rfl, (sizeC (wf := wf) (d := d + 6) ⟨_, ra2, ca2, rfl, z1, z2, z3⟩ g0.nd).imp ?_⟩
      rintro v h23 ⟨rfl, l23⟩
      have l24 := l22.trans l23
      have t24 := t1.lx l24
      have d24 : tyOf (.ref a) h23 = some (.b "dict") := by unfold tyOf; simp only [(A.lx l24).at.2]
      try simp -implicitDefEqProofs only [k_asg, k_setE, k_asg2, k_ret, k_expr, k_if, k_nx, k_bk, k_ct, k_var, k_lit, k_bin, k_then, k_bf, k_nil, k_cons, k_f1, k_new, k_al, k_tup, k_lst, k_call, k_and, k_or, k_not, k_ifx, k_tru, k_tcmp, k_tand, k_tor, k_tnot, k_chain, k_tchn, k_ttrue, k_fld, k_make, k_meth, k_bmX, k_sub, k_setF, k_lc, k_dc, k_for, k_ival, k_iitems, k_irng, k_turn, k_dturn, ok_ok, ok_opt, bl_bl, List.getElem?_cons_zero, List.getElem?_cons_succ, Option.join_some, List.set_cons_succ, List.set_cons_zero, own_int, own_str, b_add, b_sub, k_intI, c_eqI, c_neI, c_lt, c_ge, c_gt, List.length_cons, List.length_nil, List.cons_append, List.nil_append, Nat.zero_add, lim_ok, Nat.reduceAdd, Nat.reduceLeDiff, true_and, ne_eq, reduceCtorEq, not_false_eq_true, and_true, bk_str, List.cons.injEq, Val.int.injEq, wipeE, lock_none, unlock_none, if_T, if_F, Bool.false_eq_true, c_ltI, c_leI, k_sl, k_part, k_pnone, MP.sl_str, tr_bl, k_par2C, g_tp2, tm_join, tm_append, tm_clearL, tm_clearD, tm_extend, tm_pop, tm_get, tm_split, tm_partition, Option.some.injEq, exists_eq_left', exists_eq_left, show (([] : List (Str × Int)).map (·.2)).sum = 0 from rfl, show ((0 : Int) == 0) = true from rfl, if_true, neT t24.2 d24 (by kernel_rfl)]
      refine (eqO (wf := wf) (d := d + 6) d24 (by kernel_rfl)).imp ?_
      rintro v h23 ⟨rfl, rfl⟩
      try simp -implicitDefEqProofs only [k_asg, k_setE, k_asg2, k_ret, k_expr, k_if, k_nx, k_bk, k_ct, k_var, k_lit, k_bin, k_then, k_bf, k_nil, k_cons, k_f1, k_new, k_al, k_tup, k_lst, k_call, k_and, k_or, k_not, k_ifx, k_tru, k_tcmp, k_tand, k_tor, k_tnot, k_chain, k_tchn, k_ttrue, k_fld, k_make, k_meth, k_bmX, k_sub, k_setF, k_lc, k_dc, k_for, k_ival, k_iitems, k_irng, k_turn, k_dturn, ok_ok, ok_opt, bl_bl, List.getElem?_cons_zero, List.getElem?_cons_succ, Option.join_some, List.set_cons_succ, List.set_cons_zero, own_int, own_str, b_add, b_sub, k_intI, c_eqI, c_neI, c_lt, c_ge, c_gt, List.length_cons, List.length_nil, List.cons_append, List.nil_append, Nat.zero_add, lim_ok, Nat.reduceAdd, Nat.reduceLeDiff, true_and, ne_eq, reduceCtorEq, not_false_eq_true, and_true, bk_str, List.cons.injEq, Val.int.injEq, wipeE, lock_none, unlock_none, if_T, if_F, Bool.false_eq_true, c_ltI, c_leI, k_sl, k_part, k_pnone, MP.sl_str, tr_bl, k_par2C, g_tp2, tm_join, tm_append, tm_clearL, tm_clearD, tm_extend, tm_pop, tm_get, tm_split, tm_partition, Option.some.injEq, exists_eq_left', exists_eq_left, show (false != true) = true from rfl, if_true, eqT t24.2 (show tyOf .non h23 = some (.b "NoneType") from rfl) (by kernel_rfl)]
      refine (eqO (wf := wf) (d := d + 6) (show tyOf .non h23 = some (.b "NoneType") from rfl) (by kernel_rfl)).imp ?_
      rintro v h23 ⟨rfl, rfl⟩
      try simp -implicitDefEqProofs only [k_asg, k_setE, k_asg2, k_ret, k_expr, k_if, k_nx, k_bk, k_ct, k_var, k_lit, k_bin, k_then, k_bf, k_nil, k_cons, k_f1, k_new, k_al, k_tup, k_lst, k_call, k_and, k_or, k_not, k_ifx, k_tru, k_tcmp, k_tand, k_tor, k_tnot, k_chain, k_tchn, k_ttrue, k_fld, k_make, k_meth, k_bmX, k_sub, k_setF, k_lc, k_dc, k_for, k_ival, k_iitems, k_irng, k_turn, k_dturn, ok_ok, ok_opt, bl_bl, List.getElem?_cons_zero, List.getElem?_cons_succ, Option.join_some, List.set_cons_succ, List.set_cons_zero, own_int, own_str, b_add, b_sub, k_intI, c_eqI, c_neI, c_lt, c_ge, c_gt, List.length_cons, List.length_nil, List.cons_append, List.nil_append, Nat.zero_add, lim_ok, Nat.reduceAdd, Nat.reduceLeDiff, true_and, ne_eq, reduceCtorEq, not_false_eq_true, and_true, bk_str, List.cons.injEq, Val.int.injEq, wipeE, lock_none, unlock_none, if_T, if_F, Bool.false_eq_true, c_ltI, c_leI, k_sl, k_part, k_pnone, MP.sl_str, tr_bl, k_par2C, g_tp2, tm_join, tm_append, tm_clearL, tm_clearD, tm_extend, tm_pop, tm_get, tm_split, tm_partition, Option.some.injEq, exists_eq_left', exists_eq_left, show (false != false) = false from rfl]
    by_cases e : lessL M = lessL N
    · rw [decide_eq_true e, if_pos rfl]
      try simp -implicitDefEqProofs only [k_asg, k_setE, k_asg2, k_ret, k_expr, k_if, k_nx, k_bk, k_ct, k_var, k_lit, k_bin, k_then, k_bf, k_nil, k_cons, k_f1, k_new, k_al, k_tup, k_lst, k_call, k_and, k_or, k_not, k_ifx, k_tru, k_tcmp, k_tand, k_tor, k_tnot, k_chain, k_tchn, k_ttrue, k_fld, k_make, k_meth, k_bmX, k_sub, k_setF, k_lc, k_dc, k_for, k_ival, k_iitems, k_irng, k_turn, k_dturn, ok_ok, ok_opt, bl_bl, List.getElem?_cons_zero, List.getElem?_cons_succ, Option.join_some, List.set_cons_succ, List.set_cons_zero, own_int, own_str, b_add, b_sub, k_intI, c_eqI, c_neI, c_lt, c_ge, c_gt, List.length_cons, List.length_nil, List.cons_append, List.nil_append, Nat.zero_add, lim_ok, Nat.reduceAdd, Nat.reduceLeDiff, true_and, ne_eq, reduceCtorEq, not_false_eq_true, and_true, bk_str, List.cons.injEq, Val.int.injEq, wipeE, lock_none, unlock_none, if_T, if_F, Bool.false_eq_true, c_ltI, c_leI, k_sl, k_part, k_pnone, MP.sl_str, tr_bl, k_par2C, g_tp2, tm_join, tm_append, tm_clearL, tm_clearD, tm_extend, tm_pop, tm_get, tm_split, tm_partition, Option.some.injEq, exists_eq_left', exists_eq_left]
      refine (lawLess (wf := wf) (d := d + 6) h3 wa W' hp3 ((Ww.lx l2).lx l3).at two.g2.nd (by have := two.f2; omega)).imp ?_
      rintro v h4 ⟨b4, rfl, _, w4, l4⟩
      try simp -implicitDefEqProofs only [k_asg, k_setE, k_asg2, k_ret, k_expr, k_if, k_nx, k_bk, k_ct, k_var, k_lit, k_bin, k_then, k_bf, k_nil, k_cons, k_f1, k_new, k_al, k_tup, k_lst, k_call, k_and, k_or, k_not, k_ifx, k_tru, k_tcmp, k_tand, k_tor, k_tnot, k_chain, k_tchn, k_ttrue, k_fld, k_make, k_meth, k_bmX, k_sub, k_setF, k_lc, k_dc, k_for, k_ival, k_iitems, k_irng, k_turn, k_dturn, ok_ok, ok_opt, bl_bl, List.getElem?_cons_zero, List.getElem?_cons_succ, Option.join_some, List.set_cons_succ, List.set_cons_zero, own_int, own_str, b_add, b_sub, k_intI, c_eqI, c_neI, c_lt, c_ge, c_gt, List.length_cons, List.length_nil, List.cons_append, List.nil_append, Nat.zero_add, lim_ok, Nat.reduceAdd, Nat.reduceLeDiff, true_and, ne_eq, reduceCtorEq, not_false_eq_true, and_true, bk_str, List.cons.injEq, Val.int.injEq, wipeE, lock_none, unlock_none, if_T, if_F, Bool.false_eq_true, c_ltI, c_leI, k_sl, k_part, k_pnone, MP.sl_str, tr_bl, k_par2C, g_tp2, tm_join, tm_append, tm_clearL, tm_clearD, tm_extend, tm_pop, tm_get, tm_split, tm_partition, Option.some.injEq, exists_eq_left', exists_eq_left]
      refine (lawLess (wf := wf) (d := d + 6) h4 b W (Nat.lt_of_lt_of_le hp3 l4.len) (((Bb.lx l2).lx l3).lx l4).at gW.nd (by omega)).imp ?_
      rintro v h5 ⟨b5, rfl, _, w5, l5⟩
      rw [eq_dcts (w4.lx l5).at.2 w5.at.2 (eqDct_less h5 two.g2.nd gW.nd), ok_ok]
      have := same h5 (((l2.trans l3).trans l4).trans l5)
      rw [show decide (lessL M = lessL N ∧ lessL W' = lessL W) = decide (lessL W' = lessL W) by simp [e]] at this
      exact this
    · rw [decide_eq_false e, if_neg Bool.false_ne_true]
      have := same h3 (l2.trans l3)
      rw [show decide (lessL M = lessL N ∧ lessL W' = lessL W) = false by simp [e]] at this
      exact this
  try simp -implicitDefEqProofs only [k_asg, k_setE, k_asg2, k_ret, k_expr, k_if, k_nx, k_bk, k_ct, k_var, k_lit, k_bin, k_then, k_bf, k_nil, k_cons, k_f1, k_new, k_al, k_tup, k_lst, k_call, k_and, k_or, k_not, k_ifx, k_tru, k_tcmp, k_tand, k_tor, k_tnot, k_chain, k_tchn, k_ttrue, k_fld, k_make, k_meth, k_bmX, k_sub, k_setF, k_lc, k_dc, k_for, k_ival, k_iitems, k_irng, k_turn, k_dturn, ok_ok, ok_opt, bl_bl, List.getElem?_cons_zero, List.getElem?_cons_succ, Option.join_some, List.set_cons_succ, List.set_cons_zero, own_int, own_str, b_add, b_sub, k_intI, c_eqI, c_neI, c_lt, c_ge, c_gt, List.length_cons, List.length_nil, List.cons_append, List.nil_append, Nat.zero_add, lim_ok, Nat.reduceAdd, Nat.reduceLeDiff, true_and, ne_eq, reduceCtorEq, not_false_eq_true, and_true, bk_str, List.cons.injEq, Val.int.injEq, wipeE, lock_none, unlock_none, if_T, if_F, Bool.false_eq_true, c_ltI, c_leI, k_sl, k_part, k_pnone, MP.sl_str, tr_bl, k_par2C, g_tp2, tm_join, tm_append, tm_clearL, tm_clearD, tm_extend, tm_pop, tm_get, tm_split, tm_partition, Option.some.injEq, exists_eq_left', exists_eq_left]
  refine (draw (wf := wf) (d := d + 6) h10 _ 2 S10 (by decide) (by decide) (by decide)).imp ?_
  rintro v h11 ⟨z, rfl, z0, z1, _, l11, S11⟩
  replace X10 := X10.le l11
  replace A10 := A10.le l11
  replace B10 := B10.le l11
  replace T10 := T10.le l11
  replace t10 := t10.le l11
  try simp -implicitDefEqProofs only [k_asg, k_setE, k_asg2, k_ret, k_expr, k_if, k_nx, k_bk, k_ct, k_var, k_lit, k_bin, k_then, k_bf, k_nil, k_cons, k_f1, k_new, k_al, k_tup, k_lst, k_call, k_and, k_or, k_not, k_ifx, k_tru, k_tcmp, k_tand, k_tor, k_tnot, k_chain, k_tchn, k_ttrue, k_fld, k_make, k_meth, k_bmX, k_sub, k_setF, k_lc, k_dc, k_for, k_ival, k_iitems, k_irng, k_turn, k_dturn, ok_ok, ok_opt, bl_bl, List.getElem?_cons_zero, List.getElem?_cons_succ, Option.join_some, List.set_cons_succ, List.set_cons_zero, own_int, own_str, b_add, b_sub, k_intI, c_eqI, c_neI, c_lt, c_ge, c_gt, List.length_cons, List.length_nil, List.cons_append, List.nil_append, Nat.zero_add, lim_ok, Nat.reduceAdd, Nat.reduceLeDiff, true_and, ne_eq, reduceCtorEq, not_false_eq_true, and_true, bk_str, List.cons.injEq, Val.int.injEq, wipeE, lock_none, unlock_none, if_T, if_F, Bool.false_eq_true, c_ltI, c_leI, k_sl, k_part, k_pnone, MP.sl_str, tr_bl, k_par2C, g_tp2, tm_join, tm_append, tm_clearL, tm_clearD, tm_extend, tm_pop, tm_get, tm_split, tm_partition, Option.some.injEq, exists_eq_left', exists_eq_left]
  by_cases hz : (z == 0) = true
  · rw [hz, if_pos rfl]
    rw [k_seq]
    try simp -implicitDefEqProofs only [k_asg, k_setE, k_asg2, k_ret, k_expr, k_if, k_nx, k_bk, k_ct, k_var, k_lit, k_bin, k_then, k_bf, k_nil, k_cons, k_f1, k_new, k_al, k_tup, k_lst, k_call, k_and, k_or, k_not, k_ifx, k_tru, k_tcmp, k_tand, k_tor, k_tnot, k_chain, k_tchn, k_ttrue, k_fld, k_make, k_meth, k_bmX, k_sub, k_setF, k_lc, k_dc, k_for, k_ival, k_iitems, k_irng, k_turn, k_dturn, ok_ok, ok_opt, bl_bl, List.getElem?_cons_zero, List.getElem?_cons_succ, Option.join_some, List.set_cons_succ, List.set_cons_zero, own_int, own_str, b_add, b_sub, k_intI, c_eqI, c_neI, c_lt, c_ge, c_gt, List.length_cons, List.length_nil, List.cons_append, List.nil_append, Nat.zero_add, lim_ok, Nat.reduceAdd, Nat.reduceLeDiff, true_and, ne_eq, reduceCtorEq, not_false_eq_true, and_true, bk_str, List.cons.injEq, Val.int.injEq, wipeE, lock_none, unlock_none, if_T, if_F, Bool.false_eq_true, c_ltI, c_leI, k_sl, k_part, k_pnone, MP.sl_str, tr_bl, k_par2C, g_tp2, tm_join, tm_append, tm_clearL, tm_clearD, tm_extend, tm_pop, tm_get, tm_split, tm_partition, Option.some.injEq, exists_eq_left', exists_eq_left]
    refine (lawLess (wf := wf) (d := d + 6) h11 a N S11.lt A10.at gN.nd (by omega)).imp ?_
    rintro v h12 ⟨lm, rfl, hlm, LM, l12⟩
    obtain ⟨s1, ra1, ca1, es, i1, i2, i3⟩ := id T10
    have b1 := X10.lt
    have b2 := A10.lt
    have b3 := B10.lt
    have b4 := i1.lt
    have b5 := i2.lt
    have b6 := i3.lt
    have b7 := t10.lt
    try simp -implicitDefEqProofs only [k_asg, k_setE, k_asg2, k_ret, k_expr, k_if, k_nx, k_bk, k_ct, k_var, k_lit, k_bin, k_then, k_bf, k_nil, k_cons, k_f1, k_new, k_al, k_tup, k_lst, k_call, k_and, k_or, k_not, k_ifx, k_tru, k_tcmp, k_tand, k_tor, k_tnot, k_chain, k_tchn, k_ttrue, k_fld, k_make, k_meth, k_bmX, k_sub, k_setF, k_lc, k_dc, k_for, k_ival, k_iitems, k_irng, k_turn, k_dturn, ok_ok, ok_opt, bl_bl, List.getElem?_cons_zero, List.getElem?_cons_succ, Option.join_some, List.set_cons_succ, List.set_cons_zero, own_int, own_str, b_add, b_sub, k_intI, c_eqI, c_neI, c_lt, c_ge, c_gt, List.length_cons, List.length_nil, List.cons_append, List.nil_append, Nat.zero_add, lim_ok, Nat.reduceAdd, Nat.reduceLeDiff, true_and, ne_eq, reduceCtorEq, not_false_eq_true, and_true, bk_str, List.cons.injEq, Val.int.injEq, wipeE, lock_none, unlock_none, if_T, if_F, Bool.false_eq_true, c_ltI, c_leI, k_sl, k_part, k_pnone, MP.sl_str, tr_bl, k_par2C, g_tp2, tm_join, tm_append, tm_clearL, tm_clearD, tm_extend, tm_pop, tm_get, tm_split, tm_partition, Option.some.injEq, exists_eq_left', exists_eq_left, k_rev, sorted_dct (B10.lx l12).at.2 (show W.length < 64 by omega)]
    try simp -implicitDefEqProofs only [k_asg, k_setE, k_asg2, k_ret, k_expr, k_if, k_nx, k_bk, k_ct, k_var, k_lit, k_bin, k_then, k_bf, k_nil, k_cons, k_f1, k_new, k_al, k_tup, k_lst, k_call, k_and, k_or, k_not, k_ifx, k_tru, k_tcmp, k_tand, k_tor, k_tnot, k_chain, k_tchn, k_ttrue, k_fld, k_make, k_meth, k_bmX, k_sub, k_setF, k_lc, k_dc, k_for, k_ival, k_iitems, k_irng, k_turn, k_dturn, ok_ok, ok_opt, bl_bl, List.getElem?_cons_zero, List.getElem?_cons_succ, Option.join_some, List.set_cons_succ, List.set_cons_zero, own_int, own_str, b_add, b_sub, k_intI, c_eqI, c_neI, c_lt, c_ge, c_gt, List.length_cons, List.length_nil, List.cons_append, List.nil_append, Nat.zero_add, lim_ok, Nat.reduceAdd, Nat.reduceLeDiff, true_and, ne_eq, reduceCtorEq, not_false_eq_true, and_true, bk_str, List.cons.injEq, Val.int.injEq, wipeE, lock_none, unlock_none, if_T, if_F, Bool.false_eq_true, c_ltI, c_leI, k_sl, k_part, k_pnone, MP.sl_str, tr_bl, k_par2C, g_tp2, tm_join, tm_append, tm_clearL, tm_clearD, tm_extend, tm_pop, tm_get, tm_split, tm_partition, Option.some.injEq, exists_eq_left', exists_eq_left, rev_lst (rd_new (h := h12) rfl)]
    have m1 : Lx h12 (h12 ++ [(false, B.lst ((sortS (W.map (·.1))).map Val.str))]) := Fr.app _ _ _
    generalize h12 ++ [(false, B.lst ((sortS (W.map (·.1))).map Val.str))] = h13 at m1 ⊢
    try simp -implicitDefEqProofs only [k_asg, k_setE, k_asg2, k_ret, k_expr, k_if, k_nx, k_bk, k_ct, k_var, k_lit, k_bin, k_then, k_bf, k_nil, k_cons, k_f1, k_new, k_al, k_tup, k_lst, k_call, k_and, k_or, k_not, k_ifx, k_tru, k_tcmp, k_tand, k_tor, k_tnot, k_chain, k_tchn, k_ttrue, k_fld, k_make, k_meth, k_bmX, k_sub, k_setF, k_lc, k_dc, k_for, k_ival, k_iitems, k_irng, k_turn, k_dturn, ok_ok, ok_opt, bl_bl, List.getElem?_cons_zero, List.getElem?_cons_succ, Option.join_some, List.set_cons_succ, List.set_cons_zero, own_int, own_str, b_add, b_sub, k_intI, c_eqI, c_neI, c_lt, c_ge, c_gt, List.length_cons, List.length_nil, List.cons_append, List.nil_append, Nat.zero_add, lim_ok, Nat.reduceAdd, Nat.reduceLeDiff, true_and, ne_eq, reduceCtorEq, not_false_eq_true, and_true, bk_str, List.cons.injEq, Val.int.injEq, wipeE, lock_none, unlock_none, if_T, if_F, Bool.false_eq_true, c_ltI, c_leI, k_sl, k_part, k_pnone, MP.sl_str, tr_bl, k_par2C, g_tp2, tm_join, tm_append, tm_clearL, tm_clearD, tm_extend, tm_pop, tm_get, tm_split, tm_partition, Option.some.injEq, exists_eq_left', exists_eq_left, src_lst (rd_new (h := h13) rfl)]
    refine ⟨by rw [List.length_reverse, List.length_map, sortS_len, List.length_map]; exact le_lim (by omega), ?_⟩
    have hp11 := S11.lt
    have m2 : Lx h13 (h13 ++ [(false, B.lst ((sortS (W.map (·.1))).map Val.str).reverse)]) := Fr.app _ _ _
    have m3 := (l12.trans m1).trans m2
    have hp13 : 0 < h13.length := Nat.lt_of_lt_of_le hp11 (l12.trans m1).len
    have LM2 := (LM.lx m1).lx m2
    rw [← List.map_reverse] at m2 m3 LM2 ⊢
    have hks : ∀ x, x ∈ (sortS (W.map (·.1))).reverse ↔ x ∈ W.map (·.1) := fun x => by rw [List.mem_reverse, (sortS_perm _).mem_iff]
    have nks : (sortS (W.map (·.1))).reverse.Nodup := ((List.reverse_perm _).trans (sortS_perm _)).nodup_iff.mpr gW.nd
    have lks : (sortS (W.map (·.1))).reverse.length = 3 := by rw [List.length_reverse, sortS_len, List.length_map]; exact lW
    generalize (sortS (W.map (·.1))).reverse = ks at *
    have B13 := (B10.lx m3).at.lock (some h13.length)
    generalize h13 ++ [(false, B.lst (ks.map Val.str))] = h14 at *
    refine (lc_funK (fun v => match v with | .str x => some (.tup [.str x, .int (look0 W x)]) | _ => none) _ [] _ ?_).imp ?_
    · intro v hv h15 l15 K1 hK1
      obtain ⟨x, hx, rfl⟩ := List.mem_map.mp hv
      try simp -implicitDefEqProofs only [k_asg, k_setE, k_asg2, k_ret, k_expr, k_if, k_nx, k_bk, k_ct, k_var, k_lit, k_bin, k_then, k_bf, k_nil, k_cons, k_f1, k_new, k_al, k_tup, k_lst, k_call, k_and, k_or, k_not, k_ifx, k_tru, k_tcmp, k_tand, k_tor, k_tnot, k_chain, k_tchn, k_ttrue, k_fld, k_make, k_meth, k_bmX, k_sub, k_setF, k_lc, k_dc, k_for, k_ival, k_iitems, k_irng, k_turn, k_dturn, ok_ok, ok_opt, bl_bl, List.getElem?_cons_zero, List.getElem?_cons_succ, Option.join_some, List.set_cons_succ, List.set_cons_zero, own_int, own_str, b_add, b_sub, k_intI, c_eqI, c_neI, c_lt, c_ge, c_gt, List.length_cons, List.length_nil, List.cons_append, List.nil_append, Nat.zero_add, lim_ok, Nat.reduceAdd, Nat.reduceLeDiff, true_and, ne_eq, reduceCtorEq, not_false_eq_true, and_true, bk_str, List.cons.injEq, Val.int.injEq, wipeE, lock_none, unlock_none, if_T, if_F, Bool.false_eq_true, c_ltI, c_leI, k_sl, k_part, k_pnone, MP.sl_str, tr_bl, k_par2C, g_tp2, tm_join, tm_append, tm_clearL, tm_clearD, tm_extend, tm_pop, tm_get, tm_split, tm_partition, Option.some.injEq, exists_eq_left', exists_eq_left, ix_dct (B13.lx l15).2, look_dS, look_in ((hks x).mp hx), Option.map_some]
      exact hK1 _ (Fr.refl _ _)
    rintro ys h15 ⟨l15, rfl⟩
    have l16 := Fr.unlock l15
    have LM3 := LM2.lx l16
    have l17 := m3.trans l16
    generalize unlockH h14 h15 (some h13.length) = h16 at l17 LM3 ⊢
    have e : ∀ ks : List Str, (ks.map Val.str).filterMap (fun v => match v with | .str x => some (Val.tup [.str x, .int (look0 W x)]) | _ => none) = (ks.map fun x => (x, look0 W x)).map fun p => Val.tup [.str p.1, .int p.2] := fun ks => by
      induction ks with
      | nil => rfl
      | cons k ks ih => rw [List.map_cons, List.filterMap_cons, ih]; rfl
    have ek : (ks.map fun x => (x, look0 W x)).map (·.1) = ks := by rw [List.map_map]; exact List.map_id'' (fun _ => rfl) _
    rw [List.nil_append, e, dict_pairs (f := Val.int) (rd_new rfl) (by rw [ek]; exact nks), k_al]
    have l18 : Lx h16 (h16 ++ [(false, B.lst ((ks.map fun x => (x, look0 W x)).map fun p => Val.tup [.str p.1, .int p.2]))] ++ [(false, B.dct (dI (ks.map fun x => (x, look0 W x))))]) := (Fr.app _ _ _).trans (Fr.app _ _ _)
    have V18 : Aw (h16 ++ [(false, B.lst ((ks.map fun x => (x, look0 W x)).map fun p => Val.tup [.str p.1, .int p.2]))] ++ [(false, B.dct (dI (ks.map fun x => (x, look0 W x))))]) (h16 ++ [(false, B.lst ((ks.map fun x => (x, look0 W x)).map fun p => Val.tup [.str p.1, .int p.2]))]).length (.dct (dI (ks.map fun x => (x, look0 W x)))) := Aw.new (by simp)
    have hlv : lm ≠ (h16 ++ [(false, B.lst ((ks.map fun x => (x, look0 W x)).map fun p => Val.tup [.str p.1, .int p.2]))]).length := by
      have := LM3.lt
      simp
      omega
    refine ⟨_, _, rfl, ?_⟩
    generalize (h16 ++ [(false, B.lst ((ks.map fun x => (x, look0 W x)).map fun p => Val.tup [.str p.1, .int p.2]))]).length = va at *
    have LM4 := LM3.lx l18
    have l19 := l17.trans l18
    generalize h16 ++ [(false, B.lst ((ks.map fun x => (x, look0 W x)).map fun p => Val.tup [.str p.1, .int p.2]))] ++ [(false, B.dct (dI (ks.map fun x => (x, look0 W x))))] = h18 at *
    have S18 := l19.src S11
    replace X10 := X10.lx l19
    replace A10 := A10.lx l19
    replace B10 := B10.lx l19
    replace T10 := T10.le l19.le
    replace t10 := t10.lx l19
    have g2 : Good1 (ks.map fun x => (x, look0 W x)) := ⟨by rw [ek]; exact nks, fun p hp => by
      obtain ⟨x, hx, rfl⟩ := List.mem_map.mp hp
      obtain ⟨q, hq, rfl⟩ := List.mem_map.mp ((hks _).mp hx)
      exact gW.nm q hq, by rw [List.length_map, lks]; decide⟩
    have k2 : ∀ x ∈ (ks.map fun x => (x, look0 W x)).map (·.1), x ∈ xs.drop 3 := fun x hx => by
      rw [ek] at hx
      rw [← kW]
      exact (hks x).mp hx
    have k1 : ∀ x ∈ (lessL N).map (·.1), x ∈ xs.take 4 := fun x hx => by
      obtain ⟨p, hp, rfl⟩ := List.mem_map.mp hx
      rw [← kN]
      exact (lessL_mem hp).1
    have f1 := lessL_len N
    rw [k_seq]
    try simp -implicitDefEqProofs only [k_asg, k_setE, k_asg2, k_ret, k_expr, k_if, k_nx, k_bk, k_ct, k_var, k_lit, k_bin, k_then, k_bf, k_nil, k_cons, k_f1, k_new, k_al, k_tup, k_lst, k_call, k_and, k_or, k_not, k_ifx, k_tru, k_tcmp, k_tand, k_tor, k_tnot, k_chain, k_tchn, k_ttrue, k_fld, k_make, k_meth, k_bmX, k_sub, k_setF, k_lc, k_dc, k_for, k_ival, k_iitems, k_irng, k_turn, k_dturn, ok_ok, ok_opt, bl_bl, List.getElem?_cons_zero, List.getElem?_cons_succ, Option.join_some, List.set_cons_succ, List.set_cons_zero, own_int, own_str, b_add, b_sub, k_intI, c_eqI, c_neI, c_lt, c_ge, c_gt, List.length_cons, List.length_nil, List.cons_append, List.nil_append, Nat.zero_add, lim_ok, Nat.reduceAdd, Nat.reduceLeDiff, true_and, ne_eq, reduceCtorEq, not_false_eq_true, and_true, bk_str, List.cons.injEq, Val.int.injEq, wipeE, lock_none, unlock_none, if_T, if_F, Bool.false_eq_true, c_ltI, c_leI, k_sl, k_part, k_pnone, MP.sl_str, tr_bl, k_par2C, g_tp2, tm_join, tm_append, tm_clearL, tm_clearD, tm_extend, tm_pop, tm_get, tm_split, tm_partition, Option.some.injEq, exists_eq_left', exists_eq_left]
    refine (draw (wf := wf) (d := d + 6) h18 _ 2 S18 (by decide) (by decide) (by decide)).imp ?_
    rintro v h20 ⟨y, rfl, y0, y1, _, l20, S20⟩
    replace X10 := X10.le l20
    replace A10 := A10.le l20
    replace B10 := B10.le l20
    replace T10 := T10.le l20
    replace t10 := t10.le l20
    replace LM4 := LM4.le l20
    replace V18 := V18.le l20
    try simp -implicitDefEqProofs only [k_asg, k_setE, k_asg2, k_ret, k_expr, k_if, k_nx, k_bk, k_ct, k_var, k_lit, k_bin, k_then, k_bf, k_nil, k_cons, k_f1, k_new, k_al, k_tup, k_lst, k_call, k_and, k_or, k_not, k_ifx, k_tru, k_tcmp, k_tand, k_tor, k_tnot, k_chain, k_tchn, k_ttrue, k_fld, k_make, k_meth, k_bmX, k_sub, k_setF, k_lc, k_dc, k_for, k_ival, k_iitems, k_irng, k_turn, k_dturn, ok_ok, ok_opt, bl_bl, List.getElem?_cons_zero, List.getElem?_cons_succ, Option.join_some, List.set_cons_succ, List.set_cons_zero, own_int, own_str, b_add, b_sub, k_intI, c_eqI, c_neI, c_lt, c_ge, c_gt, List.length_cons, List.length_nil, List.cons_append, List.nil_append, Nat.zero_add, lim_ok, Nat.reduceAdd, Nat.reduceLeDiff, true_and, ne_eq, reduceCtorEq, not_false_eq_true, and_true, bk_str, List.cons.injEq, Val.int.injEq, wipeE, lock_none, unlock_none, if_T, if_F, Bool.false_eq_true, c_ltI, c_leI, k_sl, k_part, k_pnone, MP.sl_str, tr_bl, k_par2C, g_tp2, tm_join, tm_append, tm_clearL, tm_clearD, tm_extend, tm_pop, tm_get, tm_split, tm_partition, Option.some.injEq, exists_eq_left', exists_eq_left]
    by_cases hy : (y == 0) = true
    · rw [hy, if_pos rfl]
      rw [k_seq]
      obtain ⟨x0, xr, ex⟩ : ∃ x0 xr, xs = x0 :: xr := by
        cases xs with
        | nil => cases hl
        | cons x0 xr => exact ⟨x0, xr, rfl⟩
      have hx0 : x0 ∈ N.map (·.1) := by rw [kN, ex]; exact List.mem_cons_self
      have hat : atI (xs.map Val.str) 0 = some (.str x0) := by
        rw [ex, atI_nat (by decide) (by simp)]; rfl
      have hlim : (dI (lessL N)).length < lim := by
        rw [len_dS]
        exact Nat.lt_of_le_of_lt (Nat.le_trans f1 (Nat.le_of_eq lN)) (Nat.lt_of_lt_of_le (by decide) (le_lim (k := 100) (by decide)))
      try simp -implicitDefEqProofs only [k_asg, k_setE, k_asg2, k_ret, k_expr, k_if, k_nx, k_bk, k_ct, k_var, k_lit, k_bin, k_then, k_bf, k_nil, k_cons, k_f1, k_new, k_al, k_tup, k_lst, k_call, k_and, k_or, k_not, k_ifx, k_tru, k_tcmp, k_tand, k_tor, k_tnot, k_chain, k_tchn, k_ttrue, k_fld, k_make, k_meth, k_bmX, k_sub, k_setF, k_lc, k_dc, k_for, k_ival, k_iitems, k_irng, k_turn, k_dturn, ok_ok, ok_opt, bl_bl, List.getElem?_cons_zero, List.getElem?_cons_succ, Option.join_some, List.set_cons_succ, List.set_cons_zero, own_int, own_str, b_add, b_sub, k_intI, c_eqI, c_neI, c_lt, c_ge, c_gt, List.length_cons, List.length_nil, List.cons_append, List.nil_append, Nat.zero_add, lim_ok, Nat.reduceAdd, Nat.reduceLeDiff, true_and, ne_eq, reduceCtorEq, not_false_eq_true, and_true, bk_str, List.cons.injEq, Val.int.injEq, wipeE, lock_none, unlock_none, if_T, if_F, Bool.false_eq_true, c_ltI, c_leI, k_sl, k_part, k_pnone, MP.sl_str, tr_bl, k_par2C, g_tp2, tm_join, tm_append, tm_clearL, tm_clearD, tm_extend, tm_pop, tm_get, tm_split, tm_partition, Option.some.injEq, exists_eq_left', exists_eq_left, ix_lst X10.at.2, hat, ix_dct A10.at.2, look_dS, look_in hx0, Option.map_some, put_dct LM4.2 hlim]
      rw [setK_dS _ _ _ _ (lessL_nodup N gN.nd)]
      have pos0 : 0 ≤ look0 N x0 := by
        unfold look0
        cases e : N.lookup x0 with
        | none => exact Int.le_refl _
        | some v => exact pN _ (lookup_mem e)
      have l21 := l19.le.trans l20
      have g1 : Good1 (putS x0 (look0 N x0 + 1) (lessL N)) := ⟨putS_nodup _ _ _ (lessL_nodup N gN.nd), fun p hp => by
        rcases putS_mem p hp with rfl | hp
        · obtain ⟨q, hq, e⟩ := List.mem_map.mp hx0
          show IsNm x0
          rw [← e]; exact gN.nm q hq
        · exact gN.less.nm p hp, by have := putS_len x0 (look0 N x0 + 1) (lessL N); omega⟩
      refine fin _ lm va (putS x0 (look0 N x0 + 1) (lessL N)) _ ⟨g1, g2, fun p hp => ?_, fun x hx => ?_, k2, by have := putS_len x0 (look0 N x0 + 1) (lessL N); omega, by rw [List.length_map, lks]; decide⟩ (Aw.set X10 (by omega)) (Aw.set A10 (by omega)) (Aw.set B10 (by omega))
        ⟨s1, ra1, ca1, es, At.set (i1.le l21) (by omega), At.set (i2.le l21) (by omega), At.set (i3.le l21) (by omega)⟩ (At.set t10 (by omega)) ⟨LM4.1, set_at LM4.2⟩ (Aw.set V18 hlv) (by rw [List.length_set]; exact S20.lt)
      · rcases putS_mem p hp with rfl | hp
        · show 0 ≤ look0 N x0 + 1; omega
        · exact lessL_pos pN p hp
      · obtain ⟨p, hp, rfl⟩ := List.mem_map.mp hx
        rcases putS_mem p hp with rfl | hp
        · show x0 ∈ xs.take 4
          rw [← kN]; exact hx0
        · exact k1 _ (List.mem_map.mpr ⟨p, hp, rfl⟩)
    · rw [if_neg hy]
      try simp -implicitDefEqProofs only [k_asg, k_setE, k_asg2, k_ret, k_expr, k_if, k_nx, k_bk, k_ct, k_var, k_lit, k_bin, k_then, k_bf, k_nil, k_cons, k_f1, k_new, k_al, k_tup, k_lst, k_call, k_and, k_or, k_not, k_ifx, k_tru, k_tcmp, k_tand, k_tor, k_tnot, k_chain, k_tchn, k_ttrue, k_fld, k_make, k_meth, k_bmX, k_sub, k_setF, k_lc, k_dc, k_for, k_ival, k_iitems, k_irng, k_turn, k_dturn, ok_ok, ok_opt, bl_bl, List.getElem?_cons_zero, List.getElem?_cons_succ, Option.join_some, List.set_cons_succ, List.set_cons_zero, own_int, own_str, b_add, b_sub, k_intI, c_eqI, c_neI, c_lt, c_ge, c_gt, List.length_cons, List.length_nil, List.cons_append, List.nil_append, Nat.zero_add, lim_ok, Nat.reduceAdd, Nat.reduceLeDiff, true_and, ne_eq, reduceCtorEq, not_false_eq_true, and_true, bk_str, List.cons.injEq, Val.int.injEq, wipeE, lock_none, unlock_none, if_T, if_F, Bool.false_eq_true, c_ltI, c_leI, k_sl, k_part, k_pnone, MP.sl_str, tr_bl, k_par2C, g_tp2, tm_join, tm_append, tm_clearL, tm_clearD, tm_extend, tm_pop, tm_get, tm_split, tm_partition, Option.some.injEq, exists_eq_left', exists_eq_left]
      exact fin h20 lm va _ _ ⟨gN.less, g2, lessL_pos pN, k1, k2, by omega, by rw [List.length_map, lks]; decide⟩ X10 A10 B10 T10 t10 LM4 V18 S20.lt
  · rw [if_neg hz]
    try simp -implicitDefEqProofs only [k_asg, k_setE, k_asg2, k_ret, k_expr, k_if, k_nx, k_bk, k_ct, k_var, k_lit, k_bin, k_then, k_bf, k_nil, k_cons, k_f1, k_new, k_al, k_tup, k_lst, k_call, k_and, k_or, k_not, k_ifx, k_tru, k_tcmp, k_tand, k_tor, k_tnot, k_chain, k_tchn, k_ttrue, k_fld, k_make, k_meth, k_bmX, k_sub, k_setF, k_lc, k_dc, k_for, k_ival, k_iitems, k_irng, k_turn, k_dturn, ok_ok, ok_opt, bl_bl, List.getElem?_cons_zero, List.getElem?_cons_succ, Option.join_some, List.set_cons_succ, List.set_cons_zero, own_int, own_str, b_add, b_sub, k_intI, c_eqI, c_neI, c_lt, c_ge, c_gt, List.length_cons, List.length_nil, List.cons_append, List.nil_append, Nat.zero_add, lim_ok, Nat.reduceAdd, Nat.reduceLeDiff, true_and, ne_eq, reduceCtorEq, not_false_eq_true, and_true, bk_str, List.cons.injEq, Val.int.injEq, wipeE, lock_none, unlock_none, if_T, if_F, Bool.false_eq_true, c_ltI, c_leI, k_sl, k_part, k_pnone, MP.sl_str, tr_bl, k_par2C, g_tp2, tm_join, tm_append, tm_clearL, tm_clearD, tm_extend, tm_pop, tm_get, tm_split, tm_partition, Option.some.injEq, exists_eq_left', exists_eq_left]
    exact fin h11 ma wa M W' two0 X10 A10 B10 T10 t10 (M10.le l11) (V10.le l11) S11.lt
end
end MPL
end

section
set_option Elab.async false
set_option linter.all false
set_option maxRecDepth 100000
set_option maxHeartbeats 0
open PySem PySem.W PySem.Calls PyProof.Rows
theorem MPL.holds_of (wf d : Nat) (hr : L2.Room (2 * d) callerA) (main : ∀ ns : List Int, ns.length ≤ 63 → ∃ h', MP.callF MPL.D.tb MPL.D.fn wf 60 d 20 [.scr ns] [] = .ok (.bl true) h') : PySem.Challenge.rw_statementlots_k01_tables_made.Holds := by
  w_on; o_law
  refine HandSHeadRun.head_any (r := OpenLaw.row PySem.Challenge.rw_statementlots_k01_tables_made) (q := view (OpenLaw.row PySem.Challenge.rw_statementlots_k01_tables_made).prog [21]) (H := MPL.D.hook 6) (ob := MPL.D.ob 6) (M := 4000) (loose := MPL.names) (d := HandSHeadRun.topDef (OpenLaw.row PySem.Challenge.rw_statementlots_k01_tables_made).prog 21) (kwd := []) (MPL.D.ob_eq 6)
    (by kernel_rfl) (fun s => by kernel_rfl) MPL.run (by kernel_rfl) (by kernel_rfl) (by kernel_rfl) (by rfl) (by first | assumption | decide +kernel) (by decide +kernel) ⟨rfl, rfl, rfl, rfl, rfl, by decide +kernel⟩ ?hw ?hc
  case hw => w_witness2
  case hc =>
    refine MP.walk_ofW (l := PySem.Challenge.rw_statementlots_k01_tables_made) (n := 63) (k := 2 * d) (x := "_law_script") (CX := fun w => L2.CX PySem.Challenge.rw_statementlots_k01_tables_made.prog w) rfl (by decide) (by kernel_rfl) hr ?F ?z
    case F =>
      intro w mg fa h Y G hmg0
      obtain ⟨K, KX, c⟩ := Y
      have hmg : mg ("law" : PySem.Str) = some (.ref fa) := by
        have e : (HandSHeadRun.topDef (OpenLaw.row PySem.Challenge.rw_statementlots_k01_tables_made).prog 21).name = ("law" : PySem.Str) := by kernel_rfl
        rw [← e]
        exact hmg0
      obtain ⟨fd, sp, h1, h2, h3⟩ := MP.Dt.facts (D := MPL.D) (P := (PySem.Challenge.rw_statementlots_k01_tables_made).prog) (w := w) (i := 20) (f := MPL.f20) (x := "_law_script") (lw := "law") KX G hmg c MPL.scs MPL.bnds MPL.lens rfl (MP.look_mem (by kernel_rfl)) rfl rfl main
      exact ⟨K, fd, sp, KX, h1, h2, h3⟩
    case z => exact fun w H s e s' h => MP.noCX _ w H s e s' h
end

section
set_option Elab.async false
set_option linter.all false
open PySem PySem.W PySem.Calls PyProof.Rows
theorem PySem.Challenge.cw_statementlots_k01_tables_made_holds : PySem.Challenge.rw_statementlots_k01_tables_made.Holds := by
  refine MPL.holds_of 0 8 ⟨rfl, by decide +kernel, by decide +kernel⟩ fun ns hn => ?_
  obtain ⟨v, h', e, q⟩ := (MPL.law (wf := 0) (d := 0) (ns := ns)).ex
  subst q
  exact ⟨h', e⟩
end
