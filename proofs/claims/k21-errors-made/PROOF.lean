import PyProof.Rows.All
import HandS.ForMost
import HandS.Flow
import HandS.ExcInit
import HandS.ForExc
import HandS.CallSlots
import HandS.Style
import HandS.TupLe
import HandS.Property
import HandS.TryOnly
import HandS.Iter
import HandS.Zip
import HandS.DictComp
import HandS.IsInst
import HandS.More
import HandS.WordsDict
import HandS.Text
import HandS.TupAny
import KE.KDictPairs
import KE.KDictCopyH
import HandS.Finally
import PyProof.TupleOfSeq
import HandS.SetFor
import HandS.OwnEq
import KE.KEqNest
import PyProof.InstNe
import HandS.ListItems
import KE.KExcSuper
import HandS.Wide
import HandS.Conv
import KE.KOpsOwn
import HandS.Star
import HandS.FStr
import HandS.RaiseMore
import HandS.Spec
import KE.DataMinMax
import HandS.Set
import HandS.Strs
import HandS.ClsMeth
import KE.GoesEnum
import HandS.TryMany
import PyProof.NeKinds
import KE.DataEq
import KE.KExcIs
import HandS.ExcField
import HandS.ExcValue
import HandS.Defaults
import HandS.HeadHook1
import HandS.HeadHook2
import HandS.Head0
import HandS.Head1
import HandS.Head2
import HandS.HeadEnd
import HandS.WordsExc
import PySem.Challenge.RW_statementlots_k21_errors_made
section
set_option autoImplicit false
namespace MP
open PySem L2
inductive Val where
  | non | bl (b : Bool) | int (i : Int) | str (x : Str) | tup (xs : List Val) | ref (n : Nat) | cls (c : Nat) | ty (n : String) | scr (ns : List Int) | exc (c : Nat) (f : Str) (v : Val) | exc0 (c : Nat)
inductive B where
  | lst (xs : List Val)
  | dct (kvs : List (Key × Val))
  | ins (c : Nat) (fs : List (Str × Val))
abbrev Cell := Bool × B
abbrev Heap := List Cell
abbrev Env := List (Option Val)
def rd (h : Heap) (a : Nat) : Option B := (h[a]?).map (·.2)
def wr (h : Heap) (a : Nat) (b : B) : Option Heap := match h[a]? with
  | some (false, _) => some (h.set a (false, b))
  | _ => none
inductive Rs (α : Type) where
  | ok (a : α) (h : Heap)
  | ex (c : Nat) (fs : List (Str × Val)) (h : Heap)
  | bad
def Rs.bind {α β : Type} (r : Rs α) (f : α → Heap → Rs β) : Rs β := match r with
  | .ok a h => f a h
  | .ex c fs h => .ex c fs h
  | .bad => .bad
def al (h : Heap) (b : B) : Rs Val := .ok (.ref h.length) (h ++ [(false, b)])
def opt {α : Type} (o : Option α) (h : Heap) : Rs α := match o with
  | some a => .ok a h
  | none => .bad
inductive Bop where
  | add | sub | mul | fdiv | mod | pow | bor
inductive Cop where
  | eq | ne | lt | le | gt | ge | is | isn | in_ | nin
/-- built-in functions -/
inductive Bf where
  | len | int | str | list | tuple | dict | set | sorted | sum | all | any | min | max | abs | isinst | repr
/-- methods of built-in types -/
inductive Bm where
  | append | extend | pop | clear | get | items | values | keys | join | split | partition
mutual
inductive E where
  | var (i : Nat)
  | lit (v : Val)
  | glob (x : Str) (v : Val)
  | bin (op : Bop) (a b : E)
  | neg (a : E)
  | cmp (op : Cop) (a b : E)
  | cmp2 (op op' : Cop) (a b c : E)
  | and (a b : E)
  | or (a b : E)
  | not (a : E)
  | ite (c a b : E)
  | tup (es : Es)
  | lst (es : Es)
  | dict (ks vs : Es)
  | call (f : Nat) (es : Es)
  | make (c : Nat) (es : Es)
  | meth (o : E) (m : Str) (es : Es)
  | attr (o : E) (f : Str)
  | bf (f : Bf) (es : Es)
  | bm (m : Bm) (o : E) (es : Es)
  | ix (a i : E)
  | sl (a : E) (lo hi : Eo)
  | rev (a : E)
  | lc (el : E) (tg : Tg) (it : It) (c : Eo) (own : List (Str × Nat))
  | dc (k v : E) (tg : Tg) (it : It) (c : Eo) (own : List (Str × Nat))
inductive Es where
  | nil
  | cons (e : E) (es : Es)
inductive Eo where
  | none
  | some (e : E)
inductive It where
  | val (e : E)
  | items (e : E)
  | values (e : E)
  | range (es : Es)
  | enum (e : E)
  | zip (a b : E)
inductive Tg where
  | name (i : Nat)
  | tup (ts : Tgs)
  | sub (o i : E)
  | fld (o : E) (f : Str)
inductive Tgs where
  | nil
  | cons (t : Tg) (ts : Tgs)
end
mutual
inductive S where
  | pass
  | expr (e : E)
  | ret (e : Eo)
  | asg (t : Tg) (e : E)
  | aug (t : Tg) (op : Bop) (e : E)
  | ite (c : E) (a b : Ss)
  | for_ (t : Tg) (it : It) (b : Ss)
  | while_ (c : E) (b : Ss)
  | raise (c : Nat) (es : Es)
  | try_ (b : Ss) (hs : Hs)
  | break_
  | continue_
inductive Ss where
  | nil
  | cons (s : S) (ss : Ss)
inductive Hs where
  | nil
  | cons (c : Nat) (i : Option Nat) (b : Ss) (hs : Hs)
end
end MP
end
section
set_option autoImplicit false
namespace MP
open PySem L2
structure Cls where
  name : Str
  meths : List (Str × Nat)
  props : List (Str × Nat)
def lim : Nat := 1000000
section
variable {α : Type}
def lookK (kvs : List (Key × α)) (k : Key) : Option α := (kvs.find? fun kv => decide (kv.1 = k)).map (·.2)
def setK (kvs : List (Key × α)) (k : Key) (v : α) : List (Key × α) :=
  if (kvs.any fun kv => decide (kv.1 = k)) = true then kvs.map (fun kv => if kv.1 = k then (kv.1, v) else kv) else kvs ++ [(k, v)]
def merK (kvs more : List (Key × α)) : List (Key × α) := more.foldl (fun acc kv => setK acc kv.1 kv.2) kvs
def setF (f : Str) (v : α) : List (Str × α) → List (Str × α)
  | [] => [(f, v)]
  | (g, u) :: r => if g = f then (g, v) :: r else (g, u) :: setF f v r
def cut (xs : List α) (lo hi : Option Int) : List α := (xs.drop (HT.sIx xs.length 0 lo)).take (HT.sIx xs.length xs.length hi - HT.sIx xs.length 0 lo)
end
/-- a text within a text -/
@[irreducible] def subS (z s : Str) : Bool := !(Builtin.Str.occurrences z s 0 z.length 1).isEmpty
def keyV : Val → Option Key
  | .int i => some (.inl i)
  | .str x => some (.inr x)
  | _ => none
def vKey : Key → Val
  | .inl i => .int i
  | .inr x => .str x
def truth (v : Val) (h : Heap) : Option Bool := match v with
  | .non => some false
  | .bl b => some b
  | .int i => some (i != 0)
  | .str x => some (x.length != 0)
  | .tup xs => some (!xs.isEmpty)
  | .ref a => (match h[a]? with
    | some (_, .lst xs) => some (!xs.isEmpty)
    | some (false, .dct kvs) => some (!kvs.isEmpty)
    | _ => none)
  | _ => none
def flat : Val → Bool
  | .non | .bl _ | .int _ | .str _ => true
  | _ => false
def eqF : Val → Val → Bool
  | .non, .non => true
  | .bl a, .bl b => a == b
  | .bl a, .int b => (if a then 1 else 0) == b
  | .int a, .bl b => a == (if b then 1 else 0)
  | .int a, .int b => a == b
  | .str a, .str b => a == b
  | _, _ => false
def powOk (i j : Int) : Bool := decide (0 ≤ j) && decide (j ≤ 1000000) && (decide (i.natAbs < 2 ^ 64) || (decide (j ≤ 100) && decide (i.natAbs.log2 < 40000)))
def mulOk (i j : Int) : Bool := (decide (-(2 ^ 64) < i) && decide (i < 2 ^ 64)) || (decide (-(2 ^ 64) < j) && decide (j < 2 ^ 64))
def bop (op : Bop) (x y : Val) (h : Heap) : Rs Val := match op, x, y with
  | .add, .int i, .int j => .ok (.int (i + j)) h
  | .sub, .int i, .int j => .ok (.int (i - j)) h
  | .mul, .int i, .int j => if mulOk i j then .ok (.int (i * j)) h else .bad
  | .fdiv, .int i, .int j => if decide (0 < j) && decide (j < 1073741824) then .ok (.int (i / j)) h else .bad
  | .mod, .int i, .int j => if decide (0 < j) then .ok (.int (i % j)) h else .bad
  | .pow, .int i, .int j => if powOk i j then .ok (.int (i ^ j.toNat)) h else .bad
  | .add, .str a, .str b => if a.length + b.length ≤ lim then .ok (.str (a ++ b)) h else .bad
  | .add, .ref a, .ref b => (match rd h a, rd h b with
    | some (.lst xs), some (.lst ys) => if xs.length + ys.length ≤ lim then al h (.lst (xs ++ ys)) else .bad
    | _, _ => .bad)
  | .mul, .ref a, .int k => (match rd h a with
    | some (.lst xs) => if 0 ≤ k ∧ k ≤ lim ∧ xs.length * k.toNat ≤ lim then al h (.lst (List.replicate k.toNat xs).flatten) else .bad
    | _ => .bad)
  | _, _, _ => .bad
/-- comparisons that call nothing -/
def cop (op : Cop) (x y : Val) (h : Heap) : Rs Val := match op with
  | .lt => (match x, y with
    | .int i, .int j => .ok (.bl (decide (i < j))) h
    | .str a, .str b => .ok (.bl (decide (a.cps.toList < b.cps.toList))) h
    | _, _ => .bad)
  | .le => (match x, y with
    | .int i, .int j => .ok (.bl (decide (i ≤ j))) h
    | _, _ => .bad)
  | .gt => (match x, y with
    | .int i, .int j => .ok (.bl (decide (j < i))) h
    | _, _ => .bad)
  | .ge => (match x, y with
    | .int i, .int j => .ok (.bl (decide (j ≤ i))) h
    | _, _ => .bad)
  | .is => (match y with
    | .non => (match x with
      | .non => .ok (.bl true) h
      | _ => .ok (.bl false) h)
    | .bl b => (match x with
      | .bl a => .ok (.bl (decide (a = b))) h
      | _ => .bad)
    | _ => .bad)
  | .isn => (match y with
    | .non => (match x with
      | .non => .ok (.bl false) h
      | _ => .ok (.bl true) h)
    | .bl b => (match x with
      | .bl a => .ok (.bl (!decide (a = b))) h
      | _ => .bad)
    | _ => .bad)
  | .in_ => (match y with
    | .tup xs => if flat x && xs.all flat then .ok (.bl (xs.any fun z => eqF z x)) h else .bad
    | .ref a => (match rd h a with
      | some (.lst xs) => if flat x && xs.all flat then .ok (.bl (xs.any fun z => eqF z x)) h else .bad
      | some (.dct kvs) => (match keyV x with
        | some k => .ok (.bl (lookK kvs k).isSome) h
        | none => .bad)
      | _ => .bad)
    | .str z => (match x with
      | .str s => (match s.cps.toList with
        | [c] => .ok (.bl (decide (c ∈ z.cps.toList))) h
        | _ => .ok (.bl (subS z s)) h)
      | _ => .bad)
    | _ => .bad)
  | .nin => (match y with
    | .tup xs => if flat x && xs.all flat then .ok (.bl (!xs.any fun z => eqF z x)) h else .bad
    | .ref a => (match rd h a with
      | some (.lst xs) => if flat x && xs.all flat then .ok (.bl (!xs.any fun z => eqF z x)) h else .bad
      | some (.dct kvs) => (match keyV x with
        | some k => .ok (.bl (!(lookK kvs k).isSome)) h
        | none => .bad)
      | _ => .bad)
    | .str z => (match x with
      | .str s => (match s.cps.toList with
        | [c] => .ok (.bl (!decide (c ∈ z.cps.toList))) h
        | _ => .ok (.bl (!subS z s)) h)
      | _ => .bad)
    | _ => .bad)
  | _ => .bad
end MP
end
section
set_option autoImplicit false
namespace MP
open PySem L2
/-- what is fixed through a law -/
structure G where
  P : Program
  w : World
  K : PySem.W.Frag
  mg : Str → Option Value
  base : PySem.Heap
  C : Nat → Addr
/-- a tuple; an empty one is a plain object -/
def Pl (K : PySem.W.Frag) (H : Hp) (a : Addr) : Prop := ∃ (o : Obj) (n : Nat), (H a = some (.frz o (.tup [])) ∨ K.lookup a = some o) ∧ o.cls = .type "tuple" ∧ o.dict = none ∧ o.data = .seq #[] n
def TupAt (K : PySem.W.Frag) (H : Hp) (a : Addr) (xs : List V) : Prop := SqT K H a xs ∧ (xs = [] → Pl K H a)
/-- a list that nobody writes: the script -/
def ScrAt (K : PySem.W.Frag) (H : Hp) (a : Addr) (ns : List Int) : Prop := (∃ o, H a = some (.frz o (.lst (ns.map V.int)))) ∨
  ∃ (o : Obj) (its : Array Value) (n : Nat), K.lookup a = some o ∧ o.cls = .type "list" ∧ o.dict = none ∧ o.data = .seq its n ∧ its.size ≤ sizeLine ∧ Vals (ns.map V.int) its.toList
theorem ScrAt.sq {K : PySem.W.Frag} {H : Hp} {a : Addr} {ns : List Int} (h : ScrAt K H a ns) : SqL K H a (ns.map V.int) := by
  rcases h with ⟨o, h⟩ | h
  · exact .inl (.inr ⟨o, h⟩)
  · exact .inr h
structure Fx (K : PySem.W.Frag) (H H' : Hp) : Prop where
  tup : ∀ a xs, TupAt K H a xs → TupAt K H' a xs
  scr : ∀ a ns, ScrAt K H a ns → ScrAt K H' a ns
  ext : ∀ a φ, H a = some (.ext φ) → H' a = some (.ext φ)
/-- an exception with one field, and with none -/
def ExcAt (H : Hp) (C a : Addr) (f : Str) (y : V) : Prop := ∃ dx, H a = some (exo a C (some dx)) ∧ H dx = some (exd dx [(f, y)])
def Exc0At (H : Hp) (C a : Addr) : Prop := H a = some (exo a C none)
theorem ExcAt.fx {K : PySem.W.Frag} {H H' : Hp} (x : Fx K H H') {C a : Addr} {f : Str} {y : V} (h : ExcAt H C a f y) : ExcAt H' C a f y := by
  obtain ⟨dx, e1, e2⟩ := h
  exact ⟨dx, x.ext _ _ e1, x.ext _ _ e2⟩
mutual
def VR (g : G) (ρ : Nat → Addr) (n : Nat) (H : Hp) : Val → V → Prop
  | .non, x => x = .non
  | .bl b, x => x = .bl b
  | .int i, x => x = .int i
  | .str s, x => x = .str s ∧ s.length ≤ sizeLine
  | .tup vs, x => ∃ a xs, x = .ref a ∧ TupAt g.K H a xs ∧ VRs g ρ n H vs xs
  | .ref i, x => i < n ∧ x = .ref (ρ i)
  | .cls c, x => x = .ref (g.C c)
  | .ty t, x => x = .ty t
  | .scr ns, x => ∃ a, x = .ref a ∧ ScrAt g.K H a ns
  | .exc c f v, x => ∃ a y, x = .ref a ∧ ExcAt H (g.C c) a f y ∧ VR g ρ n H v y
  | .exc0 c, x => ∃ a, x = .ref a ∧ Exc0At H (g.C c) a
def VRs (g : G) (ρ : Nat → Addr) (n : Nat) (H : Hp) : List Val → List V → Prop
  | [], xs => xs = []
  | v :: vs, xs => ∃ x r, xs = x :: r ∧ VR g ρ n H v x ∧ VRs g ρ n H vs r
end
def KR {κ : Type} (g : G) (ρ : Nat → Addr) (n : Nat) (H : Hp) : List (κ × Val) → List (κ × V) → Prop
  | [], xs => xs = []
  | (k, v) :: vs, xs => ∃ x r, xs = (k, x) :: r ∧ VR g ρ n H v x ∧ KR g ρ n H vs r
def KOk : Key → Prop
  | .inl _ => True
  | .inr x => x.length ≤ sizeLine
def DLen (vs : List (Key × Val)) : Prop := vs.length ≤ sizeLine ∧ ∀ p ∈ vs, KOk p.1
def OR (g : G) (ρ : Nat → Addr) (n : Nat) (H : Hp) (a : Addr) : Bool → B → Prop
  | false, .lst vs => vs.length ≤ sizeLine ∧ ∃ xs, H a = some (.lst xs) ∧ VRs g ρ n H vs xs
  | true, .lst vs => vs.length ≤ sizeLine ∧ ∃ xs, H a = some (.lst xs) ∧ VRs g ρ n H vs xs
  | false, .dct vs => DLen vs ∧ ∃ xs, H a = some (.dK xs) ∧ KR g ρ n H vs xs
  | true, .dct vs => DLen vs ∧ ∃ o xs, H a = some (.frz o (.dK xs)) ∧ KR g ρ n H vs xs
  | false, .ins c fs => ∃ dx xs, H a = some (.ins (g.C c) dx xs) ∧ KR g ρ n H fs xs
  | true, .ins _ _ => False
structure Rel (g : G) (ρ : Nat → Addr) (h : Heap) (H : Hp) : Prop where
  inj : ∀ i j, i < h.length → j < h.length → ρ i = ρ j → i = j
  obj : ∀ (i : Nat) (b : Bool) (c : B), h[i]? = some (b, c) → OR g ρ h.length H (ρ i) b c
/-- from one state to a later one -/
structure Stp (ρ ρ' : Nat → Addr) (h h' : Heap) (H H' : Hp) : Prop where
  len : h.length ≤ h'.length
  agr : ∀ i, i < h.length → ρ' i = ρ i
  new : ∀ i, h.length ≤ i → i < h'.length → H (ρ' i) = none
  kep : ∀ b, H' b = none → H b = none
  frm : ∀ b o, H b = some o → (∀ (i : Nat) (c : B), h[i]? = some (false, c) → ρ i ≠ b) → H' b = some o
  lck : ∀ (i : Nat) (c : B), h[i]? = some (true, c) → h'[i]? = some (true, c)
section
variable {g : G} {ρ ρ' ρ1 ρ2 : Nat → Addr} {n n' : Nat} {h h' h1 h2 : Heap} {H H' H1 H2 : Hp}
theorem lt_of_get {α : Type} {l : List α} {i : Nat} {a : α} (e : l[i]? = some a) : i < l.length := (List.getElem?_eq_some_iff.mp e).1
theorem Stp.refl (ρ : Nat → Addr) (h : Heap) (H : Hp) : Stp ρ ρ h h H H :=
  ⟨Nat.le_refl _, fun _ _ => rfl, fun i a b => absurd b (Nat.not_lt.mpr a), fun _ e => e, fun _ _ e _ => e, fun _ _ e => e⟩
theorem Stp.trans (a : Stp ρ ρ1 h h1 H H1) (b : Stp ρ1 ρ2 h1 h2 H1 H2) : Stp ρ ρ2 h h2 H H2 where
  len := Nat.le_trans a.len b.len
  agr := fun i hi => (b.agr i (Nat.lt_of_lt_of_le hi a.len)).trans (a.agr i hi)
  new := fun i h1' h2' => by
    by_cases hi : i < h1.length
    · rw [b.agr i hi]; exact a.new i h1' hi
    · exact a.kep _ (b.new i (by omega) h2')
  kep := fun c e => a.kep c (b.kep c e)
  frm := fun c o e hn => b.frm c o (a.frm c o e hn) fun i c' ei er => by
    by_cases hi : i < h.length
    · cases e' : h[i]? with
      | none => exact absurd (List.getElem?_eq_none_iff.mp e') (by omega)
      | some q =>
        obtain ⟨bq, cq⟩ := q
        cases bq with
        | true => rw [a.lck i cq e'] at ei; cases ei
        | false => exact hn i cq e' (by rw [← a.agr i hi]; exact er)
    · have z := a.new i (by omega) (lt_of_get ei)
      rw [er, e] at z; cases z
  lck := fun i c e => b.lck i c (a.lck i c e)
theorem VRs.length : ∀ {vs : List Val} {xs : List V}, VRs g ρ n H vs xs → vs.length = xs.length
  | [], xs, e => by rw [VRs] at e; rw [e]; rfl
  | v :: vs, xs, e => by
    rw [VRs] at e
    obtain ⟨x, r, rfl, _, q⟩ := e
    rw [List.length_cons, List.length_cons, VRs.length q]
mutual
theorem VR.mono (h1 : ∀ i, i < n → ρ' i = ρ i) (h2 : n ≤ n') (h3 : Fx g.K H H') : ∀ {v : Val} {x : V}, VR g ρ n H v x → VR g ρ' n' H' v x
  | .non, _, e => by rw [VR] at *; exact e
  | .bl _, _, e => by rw [VR] at *; exact e
  | .int _, _, e => by rw [VR] at *; exact e
  | .str _, _, e => by rw [VR] at *; exact e
  | .tup vs, x, e => by
    rw [VR] at *
    obtain ⟨a, xs, e1, e2, e3⟩ := e
    exact ⟨a, xs, e1, h3.tup a xs e2, VRs.mono h1 h2 h3 e3⟩
  | .ref i, x, e => by
    rw [VR] at *
    exact ⟨Nat.lt_of_lt_of_le e.1 h2, by rw [h1 i e.1]; exact e.2⟩
  | .cls _, _, e => by rw [VR] at *; exact e
  | .ty _, _, e => by rw [VR] at *; exact e
  | .scr ns, _, e => by
    rw [VR] at *
    obtain ⟨a, e1, e2⟩ := e
    exact ⟨a, e1, h3.scr a ns e2⟩
  | .exc c f v, _, e => by
    rw [VR] at *
    obtain ⟨a, y, e1, e2, e3⟩ := e
    exact ⟨a, y, e1, e2.fx h3, VR.mono h1 h2 h3 e3⟩
  | .exc0 c, _, e => by
    rw [VR] at *
    obtain ⟨a, e1, e2⟩ := e
    exact ⟨a, e1, h3.ext _ _ e2⟩
theorem VRs.mono (h1 : ∀ i, i < n → ρ' i = ρ i) (h2 : n ≤ n') (h3 : Fx g.K H H') : ∀ {vs : List Val} {xs : List V}, VRs g ρ n H vs xs → VRs g ρ' n' H' vs xs
  | [], _, e => by rw [VRs] at *; exact e
  | v :: vs, xs, e => by
    rw [VRs] at *
    obtain ⟨x, r, e1, e2, e3⟩ := e
    exact ⟨x, r, e1, VR.mono h1 h2 h3 e2, VRs.mono h1 h2 h3 e3⟩
end
theorem KR.mono {κ : Type} (h1 : ∀ i, i < n → ρ' i = ρ i) (h2 : n ≤ n') (h3 : Fx g.K H H') : ∀ {vs : List (κ × Val)} {xs : List (κ × V)}, KR g ρ n H vs xs → KR g ρ' n' H' vs xs
  | [], _, e => by rw [KR] at *; exact e
  | (k, v) :: vs, xs, e => by
    rw [KR] at *
    obtain ⟨x, r, e1, e2, e3⟩ := e
    exact ⟨x, r, e1, VR.mono h1 h2 h3 e2, KR.mono h1 h2 h3 e3⟩
/-- an unlocked cell holds no tuple, nothing frozen -/
theorem Rel.plain (r : Rel g ρ h H) {i : Nat} {c : B} (e : h[i]? = some (false, c)) : (∃ xs, H (ρ i) = some (.lst xs)) ∨ (∃ xs, H (ρ i) = some (.dK xs)) ∨ ∃ C dx xs, H (ρ i) = some (.ins C dx xs) := by
  have q := r.obj i false c e
  cases c with
  | lst vs => obtain ⟨_, xs, e, _⟩ := q; exact .inl ⟨xs, e⟩
  | dct vs => obtain ⟨_, xs, e, _⟩ := q; exact .inr (.inl ⟨xs, e⟩)
  | ins c fs => obtain ⟨dx, xs, e, _⟩ := q; exact .inr (.inr ⟨_, dx, xs, e⟩)
theorem Rel.trk (r : Rel g ρ h H) {i : Nat} {b : Bool} {c : B} (e : h[i]? = some (b, c)) : ∃ o, H (ρ i) = some o := by
  have q := r.obj i b c e
  cases b <;> cases c
  · obtain ⟨_, xs, e, _⟩ := q; exact ⟨_, e⟩
  · obtain ⟨_, xs, e, _⟩ := q; exact ⟨_, e⟩
  · obtain ⟨_, xs, e, _⟩ := q; exact ⟨_, e⟩
  · obtain ⟨_, xs, e, _⟩ := q; exact ⟨_, e⟩
  · obtain ⟨_, _, xs, e, _⟩ := q; exact ⟨_, e⟩
  · exact q.elim
theorem Stp.seqT (r : Rel g ρ h H) (s : Stp ρ ρ' h h' H H') : Fx g.K H H' := by
  have keep : ∀ (a : Addr) o, H a = .some o → (∀ ys, o ≠ .lst ys) → (∀ ys, o ≠ .dK ys) → (∀ C dx ys, o ≠ .ins C dx ys) → H' a = .some o := fun a o eo n1 n2 n3 => s.frm a o eo fun i c ei er => by
    rcases r.plain ei with ⟨ys, z⟩ | ⟨ys, z⟩ | ⟨C, dx, ys, z⟩ <;> rw [er, eo] at z <;> cases z
    · exact n1 _ rfl
    · exact n2 _ rfl
    · exact n3 _ _ _ rfl
  refine ⟨fun a xs ⟨e, pe⟩ => ?_, fun a ns e => ?_, fun a φ e => keep a _ e (fun _ z => nomatch z) (fun _ z => nomatch z) fun _ _ _ z => nomatch z⟩
  case refine_2 =>
    rcases e with ⟨o, e⟩ | e
    · exact .inl ⟨o, keep a _ e (fun _ z => nomatch z) (fun _ z => nomatch z) fun _ _ _ z => nomatch z⟩
    · exact .inr e
  refine ⟨?_, fun z => by
    obtain ⟨o, n, q | q, rest⟩ := pe z
    · exact ⟨o, n, .inl (keep a _ q (fun _ z => nomatch z) (fun _ z => nomatch z) fun _ _ _ z => nomatch z), rest⟩
    · exact ⟨o, n, .inr q, rest⟩⟩
  rcases e with (e | ⟨o, e⟩) | e
  · exact .inl (.inl (keep a _ e (fun _ z => nomatch z) (fun _ z => nomatch z) fun _ _ _ z => nomatch z))
  · exact .inl (.inr ⟨o, keep a _ e (fun _ z => nomatch z) (fun _ z => nomatch z) fun _ _ _ z => nomatch z⟩)
  · exact .inr e
theorem VR.step (r : Rel g ρ h H) (s : Stp ρ ρ' h h' H H') {v : Val} {x : V} (e : VR g ρ h.length H v x) : VR g ρ' h'.length H' v x := VR.mono s.agr s.len (s.seqT r) e
theorem VRs.step (r : Rel g ρ h H) (s : Stp ρ ρ' h h' H H') {v : List Val} {x : List V} (e : VRs g ρ h.length H v x) : VRs g ρ' h'.length H' v x := VRs.mono s.agr s.len (s.seqT r) e
theorem KR.step {κ : Type} (r : Rel g ρ h H) (s : Stp ρ ρ' h h' H H') {v : List (κ × Val)} {x : List (κ × V)} (e : KR g ρ h.length H v x) : KR g ρ' h'.length H' v x := KR.mono s.agr s.len (s.seqT r) e
end
end MP
end
section
set_option autoImplicit false
set_option linter.all false
namespace MP
open PySem L2
abbrev SE (X : Cx) (e : Expr) : TE := fun σ H Q => ∀ (pins : List (Addr × Obj)) (s : Shared), Inv X pins σ H s → wpAny (model X.prog X.w) X.A (PySem.eval e X.env) (EP X pins σ Q) X.xe s
theorem self_e (X : Cx) (e : Expr) : PE X e (SE X e) := ⟨fun pins s σ H Q I h => h pins s I⟩
abbrev STt (X : Cx) (e : Expr) : TT := fun σ H Q => ∀ (pins : List (Addr × Obj)) (s : Shared), Inv X pins σ H s → wpAny (model X.prog X.w) X.A (PySem.isTrue e X.env (PySem.eval e X.env)) (TP X pins σ Q) X.xe s
theorem self_t (X : Cx) (e : Expr) : PT X e (STt X e) := ⟨fun pins s σ H Q I h => h pins s I⟩
abbrev SA (X : Cx) (es : List Expr) : TA := fun σ H Q => ∀ (pos : Pos) (pins : List (Addr × Obj)) (s : Shared), Inv X pins σ H s → wpAny (model X.prog X.w) X.A (spliced (backTo pos (starEach es X.env))) (AP X pins σ Q) X.xe s
theorem self_a (X : Cx) (es : List Expr) : PA X es (SA X es) := ⟨fun pos pins s σ H Q I h => h pos pins s I⟩
abbrev SSt (X : Cx) (st : Stmt) : TS := fun D σ H => ∀ (pins : List (Addr × Obj)) (s : Shared), Inv X pins σ H s → wpAny (model X.prog X.w) X.A (exec st X.env) (SP X pins D) X.xe s
theorem self_s (X : Cx) (st : Stmt) : PS X st (SSt X st) := ⟨fun pins s σ H D I h => h pins s I⟩
abbrev SSs (X : Cx) (st : List Stmt) : TS := fun D σ H => ∀ (pins : List (Addr × Obj)) (s : Shared), Inv X pins σ H s → wpAny (model X.prog X.w) X.A (execs st X.env) (SP X pins D) X.xe s
theorem self_ss (X : Cx) (st : List Stmt) : PSs X st (SSs X st) := ⟨fun pins s σ H D I h => h pins s I⟩
abbrev SG (X : Cx) (t : Expr) : TG := fun v σ H Q => ∀ (pins : List (Addr × Obj)) (s : Shared) (u : Value), Inv X pins σ H s → RelV v u → wpAny (model X.prog X.w) X.A (assign t X.env u) (fun _ s' => ∃ σ' H', Inv X pins σ' H' s' ∧ Q σ' H') X.xe s
theorem self_g (X : Cx) (t : Expr) : PG X t (SG X t) := ⟨fun pins s σ H v u Q I r h => h pins s u I r⟩
abbrev SI (X : Cx) (tg it : Expr) : TI := fun σ H R => ∀ (pins : List (Addr × Obj)) (s : Shared), Inv X pins σ H s →
    wpAny (model X.prog X.w) X.A (PySem.eval it X.env) (fun v s1 => wpAny (model X.prog X.w) X.A (pyIter v) (PIE X pins σ tg R) X.xe s1) X.xe s
theorem self_i (X : Cx) (tg it : Expr) : PI X tg it (SI X tg it) := ⟨fun pins s σ H R I h => h pins s I⟩
theorem _root_.L2.PE.se {X : Cx} {e : Expr} {t : TE} (h : PE X e t) {σ : St} {H : Hp} {Q : VK} (q : t σ H Q) : SE X e σ H Q := fun pins s I => h.run pins s σ H Q I q
theorem _root_.L2.PT.se {X : Cx} {e : Expr} {t : TT} (h : PT X e t) {σ : St} {H : Hp} {Q : Bool → Hp → Prop} (q : t σ H Q) : STt X e σ H Q := fun pins s I => h.run pins s σ H Q I q
theorem _root_.L2.PA.se {X : Cx} {e : List Expr} {t : TA} (h : PA X e t) {σ : St} {H : Hp} {Q : List V → Hp → Prop} (q : t σ H Q) : SA X e σ H Q := fun pos pins s I => h.run pos pins s σ H Q I q
theorem _root_.L2.PS.se {X : Cx} {e : Stmt} {t : TS} (h : PS X e t) {σ : St} {H : Hp} {D : Ends} (q : t D σ H) : SSt X e D σ H := fun pins s I => h.run pins s σ H D I q
theorem _root_.L2.PSs.se {X : Cx} {e : List Stmt} {t : TS} (h : PSs X e t) {σ : St} {H : Hp} {D : Ends} (q : t D σ H) : SSs X e D σ H := fun pins s I => h.run pins s σ H D I q
theorem _root_.L2.PG.se {X : Cx} {e : Expr} {t : TG} (h : PG X e t) {v : V} {σ : St} {H : Hp} {Q : St → Hp → Prop} (q : t v σ H Q) : SG X e v σ H Q := fun pins s u I r => h.run pins s σ H v u Q I r q
theorem _root_.L2.PI.se {X : Cx} {tg it : Expr} {t : TI} (h : PI X tg it t) {σ : St} {H : Hp} {R : L2.It → Hp → Prop} (q : t σ H R) : SI X tg it σ H R := fun pins s I => h.run pins s σ H R I q
def QR {α β : Type} (g : G) (T : (Nat → Addr) → Nat → Hp → α → β → Prop) (W : WX) (ρ : Nat → Addr) (h : Heap) (H : Hp) (σ : L2.St) (r : Rs α) (Q : β → Hp → Prop) : Prop := match r with
  | .ok a h' => ∀ ρ' H' b, Stp ρ ρ' h h' H H' → Rel g ρ' h' H' → T ρ' h'.length H' a b → Q b H'
  | .ex c fs h' => ∀ ρ' H' d xs, Stp ρ ρ' h h' H H' → Rel g ρ' h' H' → H' d = some (.xd xs) → KR g ρ' h'.length H' fs xs → W (.ref (g.C c)) (some d) σ H'
  | .bad => False
section
variable {g : G} {W : WX} {ρ ρ1 : Nat → Addr} {h h1 : Heap} {H H1 : Hp} {σ : L2.St} {α β γ δ : Type}
theorem QR.imp {T : (Nat → Addr) → Nat → Hp → α → β → Prop} {r : Rs α} {Q Q' : β → Hp → Prop} (q : QR g T W ρ h H σ r Q) (i : ∀ b H, Q b H → Q' b H) : QR g T W ρ h H σ r Q' := by
  cases r with
  | ok a h' => exact fun ρ' H' b s r t => i _ _ (q ρ' H' b s r t)
  | ex c fs h' => exact q
  | bad => exact q
theorem QR.step {T : (Nat → Addr) → Nat → Hp → α → β → Prop} {r : Rs α} {Q : β → Hp → Prop} (s : Stp ρ ρ1 h h1 H H1) (q : QR g T W ρ h H σ r Q) : QR g T W ρ1 h1 H1 σ r Q := by
  cases r with
  | ok a h' => exact fun ρ' H' b s' r t => q ρ' H' b (s.trans s') r t
  | ex c fs h' => exact fun ρ' H' d xs s' r t => q ρ' H' d xs (s.trans s') r t
  | bad => exact q
/-- first r, then f -/
theorem QR.bind {T : (Nat → Addr) → Nat → Hp → α → β → Prop} {T2 : (Nat → Addr) → Nat → Hp → γ → δ → Prop} {r : Rs α} {f : α → Heap → Rs γ} {Q : δ → Hp → Prop} (q : QR g T2 W ρ h H σ (r.bind f) Q) :
    QR g T W ρ h H σ r fun b H1 => ∃ ρ1 h1 a, Stp ρ ρ1 h h1 H H1 ∧ Rel g ρ1 h1 H1 ∧ T ρ1 h1.length H1 a b ∧ r = .ok a h1 ∧ QR g T2 W ρ1 h1 H1 σ (f a h1) Q := by
  cases r with
  | ok a h' => exact fun ρ' H' b s r t => ⟨ρ', h', a, s, r, t, rfl, QR.step s q⟩
  | ex c fs h' => exact q
  | bad => exact q
theorem QR.ok {T : (Nat → Addr) → Nat → Hp → α → β → Prop} {a : α} {b : β} {Q : β → Hp → Prop} (r : Rel g ρ h H) (t : T ρ h.length H a b) (q : QR g T W ρ h H σ (.ok a h) Q) : Q b H := q ρ H b (Stp.refl ..) r t
end
/-- slots -/
structure ER (g : G) (ρ : Nat → Addr) (n : Nat) (H : Hp) (env : Env) (σ : L2.St) : Prop where
  len : env.length = σ.length
  val : ∀ (i : Nat) (v : Val), env[i]? = some (some v) → ∃ x, σ[i]? = some (some x) ∧ VR g ρ n H v x
theorem ER.step {g : G} {ρ ρ' : Nat → Addr} {h h' : Heap} {H H' : Hp} {env : Env} {σ : L2.St} (e : ER g ρ h.length H env σ) (r : Rel g ρ h H) (s : Stp ρ ρ' h h' H H') : ER g ρ' h'.length H' env σ :=
  ⟨e.len, fun i v ev => let ⟨x, a, b⟩ := e.val i v ev; ⟨x, a, b.step r s⟩⟩
/-- what a scope says is so at hand (a captured name is a cell there) -/
def ScR (s sc : Scope) : Prop := ∀ x k, sc.names.lookup x = some k → s.names.lookup x = some k ∨ (k = .free ∧ s.names.lookup x = some .cell)
theorem ScR.refl (s : Scope) : ScR s s := fun _ _ e => .inl e
theorem ScR.vis {s sc : Scope} (r : ScR s sc) {x : Str} (v : Vis sc x) : Vis s x := by
  rcases v with v | v | v
  · rcases r x _ v with e | ⟨e, _⟩
    · exact .inl e
    · cases e
  · rcases r x _ v with e | ⟨e, _⟩
    · exact .inr (.inl e)
    · cases e
  · rcases r x _ v with e | ⟨_, e⟩
    · exact .inr (.inr e)
    · exact .inr (.inl e)
theorem ScR.loc {s sc : Scope} (r : ScR s sc) {x : Str} (v : L2.Loc sc x) : L2.Loc s x := by
  rcases v with v | v
  · rcases r x _ v with e | ⟨e, _⟩
    · exact .inl e
    · cases e
  · rcases r x _ v with e | ⟨e, _⟩
    · exact .inr e
    · cases e
theorem ScR.same {s sc : Scope} (r : ScR s sc) {x : Str} {k : NameKind} (hk : k ≠ .free) (v : sc.names.lookup x = some k) : s.names.lookup x = some k := by
  rcases r x _ v with e | ⟨e, _⟩
  · exact e
  · exact absurd e hk
structure Good (g : G) (X : Cx) (N : List Str) (sc : Scope) (W : WX) (lv : Nat) : Prop where
  hP : X.prog = g.P
  hw : X.w = g.w
  hK : X.K = g.K
  hmg : X.mg = g.mg
  hbase : X.base = g.base
  hN : X.N = N
  nd : X.N.Nodup
  hsc : ScR X.env.scope sc
  calm : X.calm = true
  room : Room lv X.A
  tk : Takes X W
  pown : PassesOwn (model X.prog X.w) X.A X.env X.xe
  cell : ∀ x, sc.names.lookup x = some .cell → X.fn x = true
abbrev Fe := Env → Heap → Rs Val
def SoE (g : G) (lv : Nat) (N : List Str) (sc : Scope) (f : Fe) (e : Expr) : Prop :=
  ∀ (X : Cx) (W : WX), Good g X N sc W lv → ∀ (ρ : Nat → Addr) (h : Heap) (H : Hp) (env : Env) (σ : L2.St) (Q : VK), Rel g ρ h H → ER g ρ h.length H env σ → QR g (VR g) W ρ h H σ (f env h) Q → SE X e σ H Q
def SoT (g : G) (lv : Nat) (N : List Str) (sc : Scope) (f : Env → Heap → Rs Bool) (e : Expr) : Prop :=
  ∀ (X : Cx) (W : WX), Good g X N sc W lv → ∀ (ρ : Nat → Addr) (h : Heap) (H : Hp) (env : Env) (σ : L2.St) (Q : Bool → Hp → Prop), Rel g ρ h H → ER g ρ h.length H env σ → QR g (fun _ _ _ a b => a = b) W ρ h H σ (f env h) Q → STt X e σ H Q
def SoA (g : G) (lv : Nat) (N : List Str) (sc : Scope) (f : Env → Heap → Rs (List Val)) (e : List Expr) : Prop :=
  ∀ (X : Cx) (W : WX), Good g X N sc W lv → ∀ (ρ : Nat → Addr) (h : Heap) (H : Hp) (env : Env) (σ : L2.St) (Q : List V → Hp → Prop), Rel g ρ h H → ER g ρ h.length H env σ → QR g (VRs g) W ρ h H σ (f env h) Q → SA X e σ H Q
section
variable {g : G} {lv : Nat} {N : List Str} {sc : Scope}
theorem so_var {i : Nat} {x : Str} {pos : Pos} (hN : N[i]? = some x) (hv : Vis sc x) (hd : (x == ("__debug__" : Str)) = false) (hcd : (x == ("__classdict__" : Str)) = false) :
    SoE g lv N sc (fun env h => opt (env[i]?.join) h) (.Name x pos) := by
  intro X W G ρ h H env σ Q r e q
  refine (pe_var (i := i) (by rw [G.hN]; exact hN) (G.hsc.vis hv) hd hcd).se ?_
  cases z : env[i]? with
  | none => simp only [z] at q; exact q.elim
  | some o =>
    cases o with
    | none => simp only [z] at q; exact q.elim
    | some v =>
      simp only [z] at q
      obtain ⟨y, e1, e2⟩ := e.val i v z
      exact ⟨y, e1, QR.ok (T := VR g) (a := v) r e2 q⟩
theorem so_int {i : Int} {j : Nat} {pos : Pos} : SoE g lv N sc (fun _ h => .ok (.int i) h) (.Constant (.int i) j pos) := by
  intro X W G ρ h H env σ Q r e q
  exact pe_int.se (QR.ok (T := VR g) r (by rw [VR]) q)
theorem so_bl {b : Bool} {j : Nat} {pos : Pos} : SoE g lv N sc (fun _ h => .ok (.bl b) h) (.Constant (.bool b) j pos) := by
  intro X W G ρ h H env σ Q r e q
  exact pe_bl.se (QR.ok (T := VR g) r (by rw [VR]) q)
theorem so_non {j : Nat} {pos : Pos} : SoE g lv N sc (fun _ h => .ok .non h) (.Constant .none j pos) := by
  intro X W G ρ h H env σ Q r e q
  exact pe_non.se (QR.ok (T := VR g) r (by rw [VR]) q)
theorem so_str {x : Str} {j : Nat} {pos : Pos} (hx : x.length ≤ sizeLine) : SoE g lv N sc (fun _ h => .ok (.str x) h) (.Constant (.str x) j pos) := by
  intro X W G ρ h H env σ Q r e q
  exact pe_str.se (QR.ok (T := VR g) r (by rw [VR]; exact ⟨rfl, hx⟩) q)
abbrev SOp (X : Cx) (f : Value → Value → Sem Value) : R2 := fun x y H Q => ∀ (pins : List (Addr × Obj)) (s : Shared) (σ : L2.St) (v u : Value), Inv X pins σ H s → RelV x v → RelV y u → wpAny (model X.prog X.w) X.A (f v u) (EP X pins σ Q) X.xe s
theorem self_op (X : Cx) (f : Value → Value → Sem Value) : OpR X f (SOp X f) := fun pins s σ H x y v u Q I rx ry h => h pins s σ v u I rx ry
theorem _root_.L2.OpR.se {X : Cx} {f : Value → Value → Sem Value} {r : R2} (ho : OpR X f r) {x y : V} {H : Hp} {Q : VK} (h : r x y H Q) : SOp X f x y H Q := fun pins s σ v u I rx ry => ho pins s σ H x y v u Q I rx ry h
def SoO (g : G) (lv : Nat) (f : Value → Value → Sem Value) (op : Val → Val → Heap → Rs Val) : Prop :=
  ∀ (X : Cx) (W : WX) (N : List Str) (sc : Scope), Good g X N sc W lv → ∀ (ρ : Nat → Addr) (h : Heap) (H : Hp) (σ : L2.St) (x y : Val) (vx vy : V) (Q : VK), Rel g ρ h H → VR g ρ h.length H x vx → VR g ρ h.length H y vy → QR g (VR g) W ρ h H σ (op x y h) Q → SOp X f vx vy H Q
theorem VRs.isEmpty {ρ : Nat → Addr} {n : Nat} {H : Hp} {vs : List Val} {xs : List V} (e : VRs g ρ n H vs xs) : vs.isEmpty = xs.isEmpty := by
  have := e.length
  cases vs <;> cases xs <;> simp_all
theorem KR.length {κ : Type} {ρ : Nat → Addr} {n : Nat} {H : Hp} : ∀ {vs : List (κ × Val)} {xs : List (κ × V)}, KR g ρ n H vs xs → vs.length = xs.length
  | [], xs, e => by rw [KR] at e; rw [e]; rfl
  | (k, v) :: vs, xs, e => by
    rw [KR] at e
    obtain ⟨x, r, rfl, _, q⟩ := e
    rw [List.length_cons, List.length_cons, KR.length q]
/-- a readable list -/
theorem Rel.lst {ρ : Nat → Addr} {h : Heap} {H : Hp} (r : Rel g ρ h H) {i : Nat} {vs : List Val} (e : rd h i = some (.lst vs)) : ∃ xs, SqL g.K H (ρ i) xs ∧ VRs g ρ h.length H vs xs ∧ vs.length ≤ sizeLine := by
  unfold rd at e
  cases z : h[i]? with
  | none => rw [z] at e; cases e
  | some c =>
    obtain ⟨b, c⟩ := c
    rw [z] at e
    cases (show c = .lst vs from Option.some.inj e)
    have q := r.obj i b _ z
    cases b with
    | false =>
      obtain ⟨hl, xs, e1, e2⟩ := q
      exact ⟨xs, .inl (.inl e1), e2, hl⟩
    | true =>
      obtain ⟨hl, xs, e1, e2⟩ := q
      exact ⟨xs, .inl (.inl e1), e2, hl⟩
/-- a readable dict -/
theorem Rel.dct {ρ : Nat → Addr} {h : Heap} {H : Hp} (r : Rel g ρ h H) {i : Nat} {vs : List (Key × Val)} (e : rd h i = some (.dct vs)) : ∃ xs, Rd H (ρ i) (.dK xs) ∧ KR g ρ h.length H vs xs ∧ DLen vs := by
  unfold rd at e
  cases z : h[i]? with
  | none => rw [z] at e; cases e
  | some c =>
    obtain ⟨b, c⟩ := c
    rw [z] at e
    cases (show c = .dct vs from Option.some.inj e)
    have q := r.obj i b _ z
    cases b with
    | false =>
      obtain ⟨hl, xs, e1, e2⟩ := q
      exact ⟨xs, .inl e1, e2, hl⟩
    | true =>
      obtain ⟨hl, o, xs, e1, e2⟩ := q
      exact ⟨xs, .inr ⟨o, e1⟩, e2, hl⟩
theorem Rel.ins {ρ : Nat → Addr} {h : Heap} {H : Hp} (r : Rel g ρ h H) {i : Nat} {c : Nat} {fs : List (Str × Val)} (e : rd h i = some (.ins c fs)) : ∃ dx xs, H (ρ i) = some (.ins (g.C c) dx xs) ∧ KR g ρ h.length H fs xs := by
  unfold rd at e
  cases z : h[i]? with
  | none => rw [z] at e; cases e
  | some q =>
    obtain ⟨b, q⟩ := q
    rw [z] at e
    cases (show q = .ins c fs from Option.some.inj e)
    have q := r.obj i b _ z
    cases b with
    | false => exact q
    | true => exact q.elim
end
end MP
end
section
set_option autoImplicit false
set_option linter.all false
namespace MP
open PySem L2
section
variable {g : G} {ρ ρ' : Nat → Addr} {n n' : Nat} {h h' : Heap} {H H' : Hp}
theorem OR.mono (h1 : ∀ i, i < n → ρ' i = ρ i) (h2 : n ≤ n') (h3 : Fx g.K H H') {a : Addr} {b : Bool} {c : B} (e : OR g ρ n H a b c) (ha : H' a = H a) : OR g ρ' n' H' a b c := by
  cases b <;> cases c
  · obtain ⟨z, xs, e1, e2⟩ := e; exact ⟨z, xs, by rw [ha]; exact e1, e2.mono h1 h2 h3⟩
  · obtain ⟨z, xs, e1, e2⟩ := e; exact ⟨z, xs, by rw [ha]; exact e1, e2.mono h1 h2 h3⟩
  · obtain ⟨dx, xs, e1, e2⟩ := e; exact ⟨dx, xs, by rw [ha]; exact e1, e2.mono h1 h2 h3⟩
  · obtain ⟨z, xs, e1, e2⟩ := e; exact ⟨z, xs, by rw [ha]; exact e1, e2.mono h1 h2 h3⟩
  · obtain ⟨z, o, xs, e1, e2⟩ := e; exact ⟨z, o, xs, by rw [ha]; exact e1, e2.mono h1 h2 h3⟩
  · exact e.elim
/-- a new object that no cell holds (a tuple; the own dict of an instance) -/
theorem Stp.fresh (r : Rel g ρ h H) {p : Addr} {o : HO} (hp : H p = none) : Stp ρ ρ h h H (upd H p o) := by
  refine ⟨Nat.le_refl _, fun _ _ => rfl, fun i a b => absurd b (Nat.not_lt.mpr a), fun b e => ?_, fun b u e _ => ?_, fun _ _ e => e⟩
  · by_cases hb : b = p
    · rw [hb]; exact hp
    · rw [upd_ne hb] at e; exact e
  · rw [upd_ne (ne_of_none e hp)]; exact e
theorem Rel.fresh (r : Rel g ρ h H) {p : Addr} {o : HO} (hp : H p = none) : Rel g ρ h (upd H p o) := by
  refine ⟨r.inj, fun i b c e => ?_⟩
  obtain ⟨u, hu⟩ := r.trk e
  exact (r.obj i b c e).mono (fun _ _ => rfl) (Nat.le_refl _) ((Stp.fresh r hp).seqT r) (upd_ne (ne_of_none hu hp))
def ext (ρ : Nat → Addr) (n : Nat) (p : Addr) : Nat → Addr := fun i => if i = n then p else ρ i
theorem ext_new (ρ : Nat → Addr) (n : Nat) (p : Addr) : ext ρ n p n = p := if_pos rfl
theorem ext_old (ρ : Nat → Addr) {n i : Nat} (p : Addr) (hi : i < n) : ext ρ n p i = ρ i := if_neg (by omega)
/-- a new cell -/
theorem Stp.alloc (r : Rel g ρ h H) {p : Addr} {o : HO} {c : B} (hp : H p = none) : Stp ρ (ext ρ h.length p) h (h ++ [(false, c)]) H (upd H p o) := by
  refine ⟨by simp, fun i hi => ext_old ρ p hi, fun i a b => ?_, fun b e => ?_, fun b u e _ => ?_, fun i c e => ?_⟩
  · have : i = h.length := by simp at b; omega
    rw [this, ext_new]; exact hp
  · by_cases hb : b = p
    · rw [hb]; exact hp
    · rw [upd_ne hb] at e; exact e
  · rw [upd_ne (ne_of_none e hp)]; exact e
  · rw [List.getElem?_append_left (lt_of_get e)]; exact e
theorem Rel.alloc (r : Rel g ρ h H) {p : Addr} {o : HO} {c : B} (hp : H p = none) (ho : OR g (ext ρ h.length p) (h.length + 1) (upd H p o) p false c) : Rel g (ext ρ h.length p) (h ++ [(false, c)]) (upd H p o) := by
  have np : ∀ i, i < h.length → ρ i ≠ p := fun i hi => by
    cases z : h[i]? with
    | none => exact absurd (List.getElem?_eq_none_iff.mp z) (by omega)
    | some q =>
      obtain ⟨u, hu⟩ := r.trk (b := q.1) (c := q.2) z
      exact ne_of_none hu hp
  refine ⟨fun i j hi hj e => ?_, fun i b c' e => ?_⟩
  · rw [List.length_append, List.length_singleton] at hi hj
    by_cases h1 : i = h.length
    · by_cases h2 : j = h.length
      · rw [h1, h2]
      · rw [h1, ext_new, ext_old ρ p (by omega)] at e
        exact absurd e.symm (np j (by omega))
    · by_cases h2 : j = h.length
      · rw [h2, ext_new, ext_old ρ p (by omega)] at e
        exact absurd e (np i (by omega))
      · rw [ext_old ρ p (by omega), ext_old ρ p (by omega)] at e
        exact r.inj i j (by omega) (by omega) e
  · rw [List.length_append, List.length_singleton]
    by_cases h1 : i < h.length
    · rw [List.getElem?_append_left h1] at e
      obtain ⟨u, hu⟩ := r.trk e
      rw [ext_old ρ p h1]
      exact (r.obj i b c' e).mono (fun j hj => ext_old ρ p hj) (by omega) ((Stp.fresh r hp).seqT r) (upd_ne (ne_of_none hu hp))
    · have hl := lt_of_get e
      rw [List.length_append, List.length_singleton] at hl
      have : i = h.length := by omega
      subst this
      rw [List.getElem?_append_right (Nat.le_refl _), Nat.sub_self] at e
      cases e
      rw [ext_new]
      exact ho
/-- a cell is written -/
theorem set_get {α : Type} {l : List α} {i j : Nat} {a b : α} (e : (l.set i a)[j]? = some b) : (j = i ∧ b = a) ∨ (j ≠ i ∧ l[j]? = some b) := by
  by_cases hj : j = i
  · subst hj
    have hl := lt_of_get e
    rw [List.length_set] at hl
    rw [List.getElem?_set_self hl] at e
    cases e
    exact .inl ⟨rfl, rfl⟩
  · rw [List.getElem?_set_ne (Ne.symm hj)] at e
    exact .inr ⟨hj, e⟩
theorem Stp.write (r : Rel g ρ h H) {i : Nat} {c c' : B} {o : HO} (e : h[i]? = some (false, c)) : Stp ρ ρ h (h.set i (false, c')) H (upd H (ρ i) o) := by
  obtain ⟨u, hu⟩ := r.trk e
  refine ⟨by simp, fun _ _ => rfl, fun j a b => absurd b (by simp; omega), fun b e' => ?_, fun b v e' hn => ?_, fun j c'' e' => ?_⟩
  · by_cases hb : b = ρ i
    · rw [hb, upd_same] at e'; cases e'
    · rw [upd_ne hb] at e'; exact e'
  · rw [upd_ne (fun z => hn i c e z.symm)]; exact e'
  · have : j ≠ i := by rintro rfl; rw [e] at e'; cases e'
    rw [List.getElem?_set_ne (Ne.symm this)]; exact e'
theorem Rel.write (r : Rel g ρ h H) {i : Nat} {c c' : B} {o : HO} (e : h[i]? = some (false, c)) (ho : OR g ρ h.length (upd H (ρ i) o) (ρ i) false c') : Rel g ρ (h.set i (false, c')) (upd H (ρ i) o) := by
  refine ⟨fun a b ha hb => r.inj a b (by simpa using ha) (by simpa using hb), fun j b c'' e' => ?_⟩
  rw [List.length_set]
  rcases set_get e' with ⟨rfl, z⟩ | ⟨hj, z⟩
  · cases z; exact ho
  · refine (r.obj j b c'' z).mono (fun _ _ => rfl) (Nat.le_refl _) ((Stp.write (c' := c') r e).seqT r) (upd_ne fun q => hj (r.inj j i (lt_of_get z) (lt_of_get e) q))
end
section
variable {g : G} {lv : Nat} {N : List Str} {sc : Scope}
theorem truth_ok {ρ : Nat → Addr} {h : Heap} {H : Hp} (r : Rel g ρ h H) {v : Val} {x : V} (t : VR g ρ h.length H v x) {k : Bool} (e : truth v h = some k) : TruV g.K x H k := by
  cases v with
  | non => rw [VR] at t; subst t; cases e; rfl
  | bl b => rw [VR] at t; subst t; cases e; rfl
  | int i => rw [VR] at t; subst t; cases e; rfl
  | str s =>
    rw [VR] at t
    obtain ⟨rfl, hs⟩ := t
    cases e
    refine ⟨hs, ?_⟩
    show (s.length != 0) = ((s.length : Int) != 0)
    cases hz : s.length with
    | zero => rfl
    | succ m => simp; omega
  | tup vs =>
    rw [VR] at t
    obtain ⟨a, xs, rfl, hq, hv⟩ := t
    cases e
    exact .inr (.inl ⟨xs, hq.1, by rw [hv.isEmpty]⟩)
  | ref i =>
    rw [VR] at t
    obtain ⟨_, rfl⟩ := t
    unfold truth at e
    cases z : h[i]? with
    | none => simp only [z] at e; cases e
    | some c =>
      obtain ⟨b, c⟩ := c
      cases c with
      | lst vs =>
        simp only [z] at e
        cases e
        obtain ⟨xs, hq, hv, _⟩ := r.lst (i := i) (vs := vs) (by unfold rd; rw [z]; rfl)
        exact .inl ⟨xs, hq, by rw [hv.isEmpty]⟩
      | dct kvs =>
        cases b with
        | true => simp only [z] at e; cases e
        | false =>
          simp only [z] at e
          cases e
          obtain ⟨_, xs, e1, e2⟩ := r.obj i false _ z
          refine .inr (.inr ⟨xs, e1, ?_⟩)
          have := e2.length
          cases kvs <;> cases xs <;> simp_all
      | ins c fs => simp only [z] at e; cases e
  | exc c f v => cases e
  | exc0 c => cases e
  | cls c => cases e
  | ty n => cases e
  | scr ns => cases e
def eTru (f : Fe) (env : Env) (h : Heap) : Rs Bool := (f env h).bind fun v h1 => opt (truth v h1) h1
def eAnd (fa fb : Fe) : Fe := fun env h => (fa env h).bind fun v h1 => match truth v h1 with
  | some true => fb env h1
  | some false => .ok v h1
  | none => .bad
def eOr (fa fb : Fe) : Fe := fun env h => (fa env h).bind fun v h1 => match truth v h1 with
  | some true => .ok v h1
  | some false => fb env h1
  | none => .bad
def eNot (fa : Fe) : Fe := fun env h => (fa env h).bind fun v h1 => match truth v h1 with
  | some b => .ok (.bl (!b)) h1
  | none => .bad
def eIf (fc : Env → Heap → Rs Bool) (fa fb : Fe) : Fe := fun env h => (fc env h).bind fun b h1 => if b then fa env h1 else fb env h1
theorem so_and {fa fb : Fe} {ea eb : Expr} {rest : List Expr} {pos : Pos} (ha : SoE g lv N sc fa ea) (hb : SoE g lv N sc fb (.BoolOp .And (eb :: rest) pos)) : SoE g lv N sc (eAnd fa fb) (.BoolOp .And (ea :: eb :: rest) pos) := by
  intro X W G ρ h H env σ Q r e q
  refine (pe_andT (self_e X ea) (self_e X _)).se ?_
  refine ha X W G ρ h H env σ _ r e (QR.imp (QR.bind q) fun vx H1 ⟨ρ1, h1, x, s1, r1, t1, _, q1⟩ => ?_)
  cases z : truth x h1 with
  | none => rw [z] at q1; exact q1.elim
  | some b =>
    rw [z] at q1
    refine ⟨b, by rw [G.hK]; exact truth_ok r1 t1 z, ?_⟩
    cases b with
    | true => exact hb X W G ρ1 h1 H1 env σ Q r1 (e.step r s1) q1
    | false => exact QR.ok (T := VR g) r1 t1 q1
theorem so_or {fa fb : Fe} {ea eb : Expr} {rest : List Expr} {pos : Pos} (ha : SoE g lv N sc fa ea) (hb : SoE g lv N sc fb (.BoolOp .Or (eb :: rest) pos)) : SoE g lv N sc (eOr fa fb) (.BoolOp .Or (ea :: eb :: rest) pos) := by
  intro X W G ρ h H env σ Q r e q
  refine (pe_orT (self_e X ea) (self_e X _)).se ?_
  refine ha X W G ρ h H env σ _ r e (QR.imp (QR.bind q) fun vx H1 ⟨ρ1, h1, x, s1, r1, t1, _, q1⟩ => ?_)
  cases z : truth x h1 with
  | none => rw [z] at q1; exact q1.elim
  | some b =>
    rw [z] at q1
    refine ⟨b, by rw [G.hK]; exact truth_ok r1 t1 z, ?_⟩
    cases b with
    | true => exact QR.ok (T := VR g) r1 t1 q1
    | false => exact hb X W G ρ1 h1 H1 env σ Q r1 (e.step r s1) q1
theorem so_one {f : Fe} {e : Expr} {op : BoolOp} {pos : Pos} (ha : SoE g lv N sc f e) : SoE g lv N sc f (.BoolOp op [e] pos) := by
  intro X W G ρ h H env σ Q r e' q
  exact (pe_one (self_e X e)).se (ha X W G ρ h H env σ Q r e' q)
theorem so_not {fa : Fe} {ea : Expr} {pos : Pos} (ha : SoE g lv N sc fa ea) : SoE g lv N sc (eNot fa) (.UnaryOp .Not ea pos) := by
  intro X W G ρ h H env σ Q r e q
  refine (pe_notT (self_e X ea)).se ?_
  refine ha X W G ρ h H env σ _ r e (QR.imp (QR.bind q) fun vx H1 ⟨ρ1, h1, x, s1, r1, t1, _, q1⟩ => ?_)
  cases z : truth x h1 with
  | none => rw [z] at q1; exact q1.elim
  | some b =>
    rw [z] at q1
    exact ⟨b, by rw [G.hK]; exact truth_ok r1 t1 z, QR.ok (T := VR g) r1 (by rw [VR]) q1⟩
theorem so_ifx {fc : Env → Heap → Rs Bool} {fa fb : Fe} {ec ea eb : Expr} {pos : Pos} (hc : SoT g lv N sc fc ec) (ha : SoE g lv N sc fa ea) (hb : SoE g lv N sc fb eb) : SoE g lv N sc (eIf fc fa fb) (.IfExp ec ea eb pos) := by
  intro X W G ρ h H env σ Q r e q
  refine (pe_ifExp (self_t X ec) (self_e X ea) (self_e X eb)).se ?_
  refine hc X W G ρ h H env σ _ r e (QR.imp (QR.bind q) fun b H1 ⟨ρ1, h1, b', s1, r1, t1, _, q1⟩ => ?_)
  cases t1
  cases b with
  | true => exact ha X W G ρ1 h1 H1 env σ Q r1 (e.step r s1) q1
  | false => exact hb X W G ρ1 h1 H1 env σ Q r1 (e.step r s1) q1
def plainTest : Expr → Bool
  | .UnaryOp .Not _ _ | .BoolOp _ _ _ | .IfExp _ _ _ _ | .Compare _ _ _ _ => false
  | _ => true
theorem isTrue_plain {e : Expr} (h : plainTest e = true) (env : PySem.Env) (whole : Sem Value) : PySem.isTrue e env whole = (do let v ← whole; standAt e.pos; holding [v] (truthy v)) := by
  cases e <;> first
    | rfl
    | (cases h)
    | (rename_i op a p; cases op <;> first | rfl | cases h)
theorem st_val {f : Fe} {e : Expr} (hp : plainTest e = true) (ha : SoE g lv N sc f e) : SoT g lv N sc (eTru f) e := by
  intro X W G ρ h H env σ Q r e' q
  refine (pt_truth (self_e X e) (fun whole => isTrue_plain hp X.env whole)).se ?_
  refine ha X W G ρ h H env σ _ r e' (QR.imp (QR.bind q) fun vx H1 ⟨ρ1, h1, x, s1, r1, t1, _, q1⟩ => ?_)
  cases z : truth x h1 with
  | none => rw [z] at q1; exact q1.elim
  | some b =>
    rw [z] at q1
    exact ⟨b, by rw [G.hK]; exact truth_ok r1 t1 z, QR.ok (T := fun _ _ _ a b => a = b) r1 rfl q1⟩
def eBl (r : Rs Val) : Rs Bool := r.bind fun v h => match v with
  | .bl b => .ok b h
  | _ => .bad
def tAndF (fa fb : Env → Heap → Rs Bool) : Env → Heap → Rs Bool := fun env h => (fa env h).bind fun b h1 => if b then fb env h1 else .ok false h1
def tOrF (fa fb : Env → Heap → Rs Bool) : Env → Heap → Rs Bool := fun env h => (fa env h).bind fun b h1 => if b then .ok true h1 else fb env h1
def tNotF (fa : Env → Heap → Rs Bool) : Env → Heap → Rs Bool := fun env h => (fa env h).bind fun b h1 => .ok (!b) h1
/-- a chain of and, or: whatever its whole -/
def SoW (g : G) (lv : Nat) (N : List Str) (sc : Scope) (f : Env → Heap → Rs Bool) (e : Expr) : Prop :=
  ∀ (X : Cx) (W : WX), Good g X N sc W lv → ∀ (ρ : Nat → Addr) (h : Heap) (H : Hp) (env : Env) (σ : L2.St) (Q : Bool → Hp → Prop), Rel g ρ h H → ER g ρ h.length H env σ → QR g (fun _ _ _ a b => a = b) W ρ h H σ (f env h) Q →
    ∀ (whole : Sem Value) (pins : List (Addr × Obj)) (s : Shared), Inv X pins σ H s → wpAny (model X.prog X.w) X.A (PySem.isTrue e X.env whole) (TP X pins σ Q) X.xe s
theorem SoW.t {f : Env → Heap → Rs Bool} {e : Expr} (h : SoW g lv N sc f e) : SoT g lv N sc f e := fun X W G ρ h' H env σ Q r e' q pins s I => h X W G ρ h' H env σ Q r e' q _ pins s I
abbrev SWt (X : Cx) (e : Expr) : TT := fun σ H Q => ∀ (whole : Sem Value) (pins : List (Addr × Obj)) (s : Shared), Inv X pins σ H s → wpAny (model X.prog X.w) X.A (PySem.isTrue e X.env whole) (TP X pins σ Q) X.xe s
theorem self_w (X : Cx) (e : Expr) : PW X e (SWt X e) := ⟨fun whole pins s σ H Q I h => h whole pins s I⟩
theorem _root_.L2.PW.se {X : Cx} {e : Expr} {t : TT} (h : PW X e t) {σ : L2.St} {H : Hp} {Q : Bool → Hp → Prop} (q : t σ H Q) : SWt X e σ H Q := fun whole pins s I => h.run whole pins s σ H Q I q
theorem sw_and {fa fb : Env → Heap → Rs Bool} {ea eb : Expr} {rest : List Expr} {pos : Pos} (ha : SoT g lv N sc fa ea) (hb : SoW g lv N sc fb (.BoolOp .And (eb :: rest) pos)) : SoW g lv N sc (tAndF fa fb) (.BoolOp .And (ea :: eb :: rest) pos) := by
  intro X W G ρ h H env σ Q r e q
  refine (pw_and (self_t X ea) (self_w X _)).se ?_
  refine ha X W G ρ h H env σ _ r e (QR.imp (QR.bind q) fun b H1 ⟨ρ1, h1, b', s1, r1, t1, _, q1⟩ => ?_)
  cases t1
  cases b with
  | true => exact hb X W G ρ1 h1 H1 env σ Q r1 (e.step r s1) q1
  | false => exact QR.ok (T := fun _ _ _ a b => a = b) r1 rfl q1
theorem sw_or {fa fb : Env → Heap → Rs Bool} {ea eb : Expr} {rest : List Expr} {pos : Pos} (ha : SoT g lv N sc fa ea) (hb : SoW g lv N sc fb (.BoolOp .Or (eb :: rest) pos)) : SoW g lv N sc (tOrF fa fb) (.BoolOp .Or (ea :: eb :: rest) pos) := by
  intro X W G ρ h H env σ Q r e q
  refine (pw_or (self_t X ea) (self_w X _)).se ?_
  refine ha X W G ρ h H env σ _ r e (QR.imp (QR.bind q) fun b H1 ⟨ρ1, h1, b', s1, r1, t1, _, q1⟩ => ?_)
  cases t1
  cases b with
  | true => exact QR.ok (T := fun _ _ _ a b => a = b) r1 rfl q1
  | false => exact hb X W G ρ1 h1 H1 env σ Q r1 (e.step r s1) q1
theorem sw_and1 {fa : Env → Heap → Rs Bool} {ea : Expr} {pos : Pos} (ha : SoT g lv N sc fa ea) : SoW g lv N sc fa (.BoolOp .And [ea] pos) := by
  intro X W G ρ h H env σ Q r e q
  exact (pw_and1 (self_t X ea)).se (ha X W G ρ h H env σ Q r e q)
theorem sw_or1 {fa : Env → Heap → Rs Bool} {ea : Expr} {pos : Pos} (ha : SoT g lv N sc fa ea) : SoW g lv N sc fa (.BoolOp .Or [ea] pos) := by
  intro X W G ρ h H env σ Q r e q
  exact (pw_or1 (self_t X ea)).se (ha X W G ρ h H env σ Q r e q)
theorem st_not {fa : Env → Heap → Rs Bool} {ea : Expr} {pos : Pos} (ha : SoT g lv N sc fa ea) : SoT g lv N sc (tNotF fa) (.UnaryOp .Not ea pos) := by
  intro X W G ρ h H env σ Q r e q
  refine (pt_not (self_t X ea)).se ?_
  refine ha X W G ρ h H env σ _ r e (QR.imp (QR.bind q) fun b H1 ⟨ρ1, h1, b', s1, r1, t1, _, q1⟩ => ?_)
  cases t1
  exact QR.ok (T := fun _ _ _ a b => a = b) r1 rfl q1
def isSt : Expr → Bool
  | .Starred _ _ => true
  | _ => false
theorem starEach_plain {e : Expr} (h : isSt e = false) (es : List Expr) (env : PySem.Env) : starEach (e :: es) env = (false, PySem.eval e env) :: starEach es env := by
  cases e <;> first | rfl | cases h
theorem noStar : ∀ {es : List Expr} (h : es.all (fun e => !isSt e) = true) (pos : Pos) (env : PySem.Env), (backTo pos (starEach es env)).any (·.1) = false
  | [], _, _, _ => rfl
  | e :: es, h, pos, env => by
    simp only [List.all_cons, Bool.and_eq_true, Bool.not_eq_true'] at h
    rw [starEach_plain h.1]
    show (false || (backTo pos (starEach es env)).any (·.1)) = false
    rw [Bool.false_or]
    exact noStar h.2 pos env
theorem sa_nil : SoA g lv N sc (fun _ h => .ok [] h) [] := by
  intro X W G ρ h H env σ Q r e q
  exact pa_nil.se (QR.ok (T := VRs g) r (by rw [VRs]) q)
def eCons (f : Fe) (fs : Env → Heap → Rs (List Val)) : Env → Heap → Rs (List Val) := fun env h => (f env h).bind fun v h1 => (fs env h1).bind fun vs h2 => .ok (v :: vs) h2
theorem sa_cons {f : Fe} {fs : Env → Heap → Rs (List Val)} {e : Expr} {es : List Expr} (hs : isSt e = false) (ha : SoE g lv N sc f e) (hb : SoA g lv N sc fs es) : SoA g lv N sc (eCons f fs) (e :: es) := by
  intro X W G ρ h H env σ Q r er q
  refine (pa_cons (self_e X e) (self_a X es) (starEach_plain hs es X.env)).se ?_
  refine ha X W G ρ h H env σ _ r er (QR.imp (QR.bind q) fun vx H1 ⟨ρ1, h1, x, s1, r1, t1, _, q1⟩ => ?_)
  refine hb X W G ρ1 h1 H1 env σ _ r1 (er.step r s1) (QR.imp (QR.bind q1) fun vy H2 ⟨ρ2, h2, y, s2, r2, t2, _, q2⟩ => ?_)
  exact QR.ok (T := VRs g) r2 (by rw [VRs]; exact ⟨vx, vy, rfl, t1.step r1 s2, t2⟩) q2
def eTup (fs : Env → Heap → Rs (List Val)) : Fe := fun env h => (fs env h).bind fun vs h1 => if vs.length ≤ lim ∧ vs ≠ [] then .ok (.tup vs) h1 else .bad
def eLst (fs : Env → Heap → Rs (List Val)) : Fe := fun env h => (fs env h).bind fun vs h1 => if vs.length ≤ lim then al h1 (.lst vs) else .bad
theorem lim_le {n : Nat} (h : n ≤ lim) : n ≤ sizeLine := Nat.le_trans h (by decide)
theorem new_tupE {ρ : Nat → Addr} {h : Heap} {H : Hp} {σ : L2.St} {W : WX} {Q : VK} (r : Rel g ρ h H) (q : QR g (VR g) W ρ h H σ (.ok (.tup []) h) Q) (p : Addr) (hp : H p = none) : Q (.ref p) (upd H p (.frz { cls := .type "tuple", data := .seq #[] } (.tup []))) := by
  refine q ρ _ _ (Stp.fresh r hp) (r.fresh hp) ?_
  rw [VR]
  exact ⟨p, [], rfl, ⟨.inl (.inr ⟨_, upd_same⟩), fun _ => ⟨_, 0, .inl upd_same, rfl, rfl, rfl⟩⟩, by rw [VRs]⟩
theorem new_tup {ρ : Nat → Addr} {h : Heap} {H : Hp} {σ : L2.St} {W : WX} {Q : VK} (r : Rel g ρ h H) {vs : List Val} {xs : List V} (hne : vs ≠ []) (t : VRs g ρ h.length H vs xs) (q : QR g (VR g) W ρ h H σ (.ok (.tup vs) h) Q) (p : Addr) (hp : H p = none) : Q (.ref p) (upd H p (.tup xs)) := by
  refine q ρ _ _ (Stp.fresh r hp) (r.fresh hp) ?_
  rw [VR]
  exact ⟨p, xs, rfl, ⟨.inl (.inl upd_same), fun z => by subst z; exact absurd t.isEmpty (by cases vs with | nil => exact absurd rfl hne | cons _ _ => simp)⟩, t.step r (Stp.fresh r hp)⟩
theorem new_lst {ρ : Nat → Addr} {h : Heap} {H : Hp} {σ : L2.St} {W : WX} {Q : VK} (r : Rel g ρ h H) {vs : List Val} {xs : List V} (hl : vs.length ≤ sizeLine) (t : VRs g ρ h.length H vs xs) (q : QR g (VR g) W ρ h H σ (al h (.lst vs)) Q) (p : Addr) (hp : H p = none) : Q (.ref p) (upd H p (.lst xs)) := by
  have st : Stp ρ (ext ρ h.length p) h (h ++ [(false, .lst vs)]) H (upd H p (.lst xs)) := Stp.alloc r hp
  have t' := t.step r st
  rw [List.length_append, List.length_singleton] at t'
  refine q _ _ _ st (r.alloc hp ⟨hl, xs, upd_same, t'⟩) ?_
  rw [VR]
  exact ⟨by simp, by rw [ext_new]⟩
theorem so_tup {fs : Env → Heap → Rs (List Val)} {es : List Expr} {k : Nat} {pos : Pos} (ha : SoA g lv N sc fs es) : SoE g lv N sc (eTup fs) (.Tuple es k pos) := by
  intro X W G ρ h H env σ Q r er q
  refine (pe_tup (self_a X es)).se ?_
  refine ha X W G ρ h H env σ _ r er (QR.imp (QR.bind q) fun xs H1 ⟨ρ1, h1, vs, s1, r1, t1, _, q1⟩ => ?_)
  by_cases hl : vs.length ≤ lim ∧ vs ≠ []
  · rw [if_pos hl] at q1
    exact ⟨by rw [← t1.length]; exact lim_le hl.1, fun p hp => new_tup r1 hl.2 t1 q1 p hp⟩
  · rw [if_neg hl] at q1; exact q1.elim
theorem so_tup0 {k : Nat} {pos : Pos} : SoE g lv N sc (fun _ h => .ok (.tup []) h) (.Tuple [] k pos) := by
  intro X W G ρ h H env σ Q r er q pins s I
  refine wpAny_Tuple_spliced (thn ((pa_nil (X := X)).run pos pins s σ H (fun xs H1 => xs = [] ∧ H1 = H) I ⟨rfl, rfl⟩) fun us s1 ⟨xs, H1, I1, rv, ⟨z1, z2⟩⟩ => ?_)
  subst z1; subst z2
  cases rv
  refine ⟨by decide, ?_⟩
  have hf : H1 s1.heap.objs.size = none := I1.hok.fresh (Nat.le_refl _)
  refine ⟨.ref s1.heap.objs.size, upd H1 s1.heap.objs.size (.frz { cls := .type "tuple", data := .seq #[] } (.tup [])), I1.laid (t' := s1.toks) (fun b u e => Heap.get?_push_of_some _ e) (Nat.le_refl _) ?_, rfl, new_tupE r q _ hf⟩
  exact ⟨Heap.get?_push_size _ rfl, by decide, [], .nil, ⟨_, Heap.get?_push_size _ rfl, rfl, _, rfl⟩⟩
theorem so_lst {fs : Env → Heap → Rs (List Val)} {es : List Expr} {pos : Pos} (ha : SoA g lv N sc fs es) : SoE g lv N sc (eLst fs) (.List es pos) := by
  intro X W G ρ h H env σ Q r er q
  refine (pe_lst (self_a X es)).se ?_
  refine ha X W G ρ h H env σ _ r er (QR.imp (QR.bind q) fun xs H1 ⟨ρ1, h1, vs, s1, r1, t1, _, q1⟩ => ?_)
  by_cases hl : vs.length ≤ lim
  · rw [if_pos hl] at q1
    exact ⟨by rw [← t1.length]; exact lim_le hl, fun p hp => new_lst r1 (lim_le hl) t1 q1 p hp⟩
  · rw [if_neg hl] at q1; exact q1.elim
end
end MP
end
section
set_option autoImplicit false
set_option linter.all false
namespace MP
open PySem L2
section
variable {g : G} {lv : Nat}
theorem VR.of_int {ρ : Nat → Addr} {n : Nat} {H : Hp} {i : Int} {x : V} (t : VR g ρ n H (.int i) x) : x = .int i := by rw [VR] at t; exact t
theorem VR.of_bl {ρ : Nat → Addr} {n : Nat} {H : Hp} {i : Bool} {x : V} (t : VR g ρ n H (.bl i) x) : x = .bl i := by rw [VR] at t; exact t
theorem VR.of_non {ρ : Nat → Addr} {n : Nat} {H : Hp} {x : V} (t : VR g ρ n H .non x) : x = .non := by rw [VR] at t; exact t
theorem VR.of_str {ρ : Nat → Addr} {n : Nat} {H : Hp} {i : Str} {x : V} (t : VR g ρ n H (.str i) x) : x = .str i ∧ i.length ≤ sizeLine := by rw [VR] at t; exact t
theorem VR.of_ref {ρ : Nat → Addr} {n : Nat} {H : Hp} {i : Nat} {x : V} (t : VR g ρ n H (.ref i) x) : i < n ∧ x = .ref (ρ i) := by rw [VR] at t; exact t
theorem VR.of_tup {ρ : Nat → Addr} {n : Nat} {H : Hp} {vs : List Val} {x : V} (t : VR g ρ n H (.tup vs) x) : ∃ a xs, x = .ref a ∧ SqT g.K H a xs ∧ VRs g ρ n H vs xs := by rw [VR] at t; obtain ⟨a, xs, h1, h2, h3⟩ := t; exact ⟨a, xs, h1, h2.1, h3⟩
theorem VR.of_tupA {ρ : Nat → Addr} {n : Nat} {H : Hp} {vs : List Val} {x : V} (t : VR g ρ n H (.tup vs) x) : ∃ a xs, x = .ref a ∧ TupAt g.K H a xs ∧ VRs g ρ n H vs xs := by rw [VR] at t; exact t
theorem VR.int {ρ : Nat → Addr} {n : Nat} {H : Hp} {i : Int} : VR g ρ n H (.int i) (.int i) := by rw [VR]
theorem VR.bl {ρ : Nat → Addr} {n : Nat} {H : Hp} {i : Bool} : VR g ρ n H (.bl i) (.bl i) := by rw [VR]
theorem VR.non {ρ : Nat → Addr} {n : Nat} {H : Hp} : VR g ρ n H .non .non := by rw [VR]
theorem VR.str {ρ : Nat → Addr} {n : Nat} {H : Hp} {i : Str} (h : i.length ≤ sizeLine) : VR g ρ n H (.str i) (.str i) := by rw [VR]; exact ⟨rfl, h⟩
theorem VRs.append {ρ : Nat → Addr} {n : Nat} {H : Hp} : ∀ {vs us : List Val} {xs ys : List V}, VRs g ρ n H vs xs → VRs g ρ n H us ys → VRs g ρ n H (vs ++ us) (xs ++ ys)
  | [], us, xs, ys, a, b => by rw [VRs] at a; subst a; exact b
  | v :: vs, us, xs, ys, a, b => by
    rw [VRs] at a
    obtain ⟨x, r, rfl, e1, e2⟩ := a
    show VRs g ρ n H (v :: (vs ++ us)) _
    rw [VRs]
    exact ⟨x, r ++ ys, rfl, e1, VRs.append e2 b⟩
theorem VRs.flatten {ρ : Nat → Addr} {n : Nat} {H : Hp} {vs : List Val} {xs : List V} (t : VRs g ρ n H vs xs) : ∀ k : Nat, VRs g ρ n H (List.replicate k vs).flatten (List.replicate k xs).flatten
  | 0 => by show VRs g ρ n H [] []; rw [VRs]
  | k + 1 => by
    rw [List.replicate_succ, List.replicate_succ, List.flatten_cons, List.flatten_cons]
    exact t.append (VRs.flatten t k)
theorem str_append_length (a b : Str) : (a ++ b).length = a.length + b.length := by
  show (Str.mk (a.cps ++ b.cps)).cps.size = _
  simp [Str.length]
theorem Rel.lstE {ρ : Nat → Addr} {h : Heap} {H : Hp} (r : Rel g ρ h H) {i : Nat} {vs : List Val} (e : rd h i = some (.lst vs)) : vs.length ≤ sizeLine ∧ ∃ xs, H (ρ i) = some (.lst xs) ∧ VRs g ρ h.length H vs xs := by
  unfold rd at e
  cases z : h[i]? with
  | none => rw [z] at e; cases e
  | some c =>
    rw [z] at e
    obtain ⟨b, c⟩ := c
    cases e
    have := r.obj i b _ z
    cases b <;> exact this
theorem bo_add : SoO g lv (binaryOp .Add) (bop .add) := by
  intro X W N sc G ρ h H σ x y vx vy Q r tx ty q
  cases x <;> cases y <;> first
    | exact q.elim
    | (rename_i i j
       cases tx.of_int; cases ty.of_int
       exact op_add.se ⟨i, j, rfl, rfl, QR.ok (T := VR g) r VR.int q⟩)
    | (rename_i i j
       obtain ⟨rfl, hi⟩ := tx.of_str; obtain ⟨rfl, hj⟩ := ty.of_str
       by_cases hl : i.length + j.length ≤ lim
       · simp only [bop, if_pos hl] at q
         exact op_add_str.se ⟨i, j, rfl, rfl, lim_le hl, QR.ok (T := VR g) r (VR.str (by rw [str_append_length]; exact lim_le hl)) q⟩
       · simp only [bop, if_neg hl] at q; exact q.elim)
    | (rename_i i j
       obtain ⟨_, rfl⟩ := tx.of_ref; obtain ⟨_, rfl⟩ := ty.of_ref
       simp only [bop] at q
       split at q
       · rename_i xs ys ei ej
         split at q
         · rename_i hl
           obtain ⟨_, us, e1, t1⟩ := r.lstE ei
           obtain ⟨_, ws, e2, t2⟩ := r.lstE ej
           refine op_cat.se ⟨_, _, us, ws, rfl, rfl, e1, e2, by rw [← t1.length, ← t2.length]; exact lim_le hl, fun p hp => ?_⟩
           exact new_lst r (by rw [List.length_append]; exact lim_le hl) (t1.append t2) q p hp
         · exact q.elim
       · exact q.elim)
theorem bo_sub : SoO g lv (binaryOp .Sub) (bop .sub) := by
  intro X W N sc G ρ h H σ x y vx vy Q r tx ty q
  cases x <;> cases y <;> first
    | exact q.elim
    | (rename_i i j
       cases tx.of_int; cases ty.of_int
       exact op_sub.se ⟨i, j, rfl, rfl, QR.ok (T := VR g) r VR.int q⟩)
theorem bo_mul : SoO g lv (binaryOp .Mult) (bop .mul) := by
  intro X W N sc G ρ h H σ x y vx vy Q r tx ty q
  cases x <;> cases y <;> first
    | exact q.elim
    | (rename_i i j
       cases tx.of_int; cases ty.of_int
       simp only [bop] at q
       split at q
       · rename_i hc
         simp only [mulOk, Bool.or_eq_true, Bool.and_eq_true, decide_eq_true_eq] at hc
         exact op_mul.se ⟨i, j, rfl, rfl, hc, QR.ok (T := VR g) r VR.int q⟩
       · exact q.elim)
    | (rename_i i k
       obtain ⟨_, rfl⟩ := tx.of_ref; cases ty.of_int
       simp only [bop] at q
       split at q
       · rename_i xs ei
         split at q
         · rename_i hl
           obtain ⟨_, us, e1, t1⟩ := r.lstE ei
           have hlim : (lim : Int) < 2 ^ 63 := by decide
           refine op_rep.se ⟨_, k, us, rfl, rfl, e1, by omega, by omega, by rw [← t1.length]; exact lim_le hl.2.2, fun p hp => ?_⟩
           refine new_lst r ?_ (t1.flatten _) q p hp
           rw [List.length_flatten, List.map_replicate, List.sum_replicate_nat, Nat.mul_comm]
           exact lim_le hl.2.2
         · exact q.elim
       · exact q.elim)
theorem bo_fdiv : SoO g lv (binaryOp .FloorDiv) (bop .fdiv) := by
  intro X W N sc G ρ h H σ x y vx vy Q r tx ty q
  cases x <;> cases y <;> first
    | exact q.elim
    | (rename_i i j
       cases tx.of_int; cases ty.of_int
       simp only [bop] at q
       split at q
       · rename_i hc
         simp only [Bool.and_eq_true, decide_eq_true_eq] at hc
         exact op_fdiv.se ⟨i, j, rfl, rfl, hc, QR.ok (T := VR g) r VR.int q⟩
       · exact q.elim)
theorem bo_mod : SoO g lv (binaryOp .Mod) (bop .mod) := by
  intro X W N sc G ρ h H σ x y vx vy Q r tx ty q
  cases x <;> cases y <;> first
    | exact q.elim
    | (rename_i i j
       cases tx.of_int; cases ty.of_int
       simp only [bop] at q
       split at q
       · rename_i hc
         exact op_mod.se ⟨i, j, rfl, rfl, of_decide_eq_true hc, QR.ok (T := VR g) r VR.int q⟩
       · exact q.elim)
theorem op_powB {X : Cx} : OpR X (binaryOp .Pow) (rI (fun i j => 0 ≤ j ∧ (Builtin.Int.intBits i : Int) * j ≤ 2 ^ 27) fun i j => .int (i ^ j.toNat)) := opI fun _ _ _ _ _ _ _ hc q => PyProof.Rows.pow_int hc.1 hc.2 q
theorem bits_le {i j : Int} (h : i.natAbs.log2 < 40000) (h0 : 0 ≤ j) (h1 : j ≤ 100) : (Builtin.Int.intBits i : Int) * j ≤ 2 ^ 27 := by
  have hb : (Builtin.Int.intBits i : Int) ≤ 40000 := by
    unfold Builtin.Int.intBits
    split <;> omega
  have h2 := Int.mul_le_mul hb h1 h0 (by decide)
  exact Int.le_trans h2 (by decide)
theorem bo_pow : SoO g lv (binaryOp .Pow) (bop .pow) := by
  intro X W N sc G ρ h H σ x y vx vy Q r tx ty q
  cases x <;> cases y <;> first
    | exact q.elim
    | (rename_i i j
       cases tx.of_int; cases ty.of_int
       simp only [bop] at q
       split at q
       · rename_i hc
         simp only [powOk, Bool.and_eq_true, Bool.or_eq_true, decide_eq_true_eq] at hc
         rcases hc.2 with h2 | h2
         · exact op_pow.se ⟨i, j, rfl, rfl, ⟨hc.1.1, hc.1.2, h2⟩, QR.ok (T := VR g) r VR.int q⟩
         · exact op_powB.se ⟨i, j, rfl, rfl, ⟨hc.1.1, bits_le h2.2 hc.1.1 h2.1⟩, QR.ok (T := VR g) r VR.int q⟩
       · exact q.elim)
end
end MP
end
section
set_option autoImplicit false
set_option linter.all false
namespace MP
open PySem L2
section
variable {g : G} {lv : Nat}
def fv : Val → V
  | .bl b => .bl b
  | .int i => .int i
  | .str x => .str x
  | _ => .non
theorem VR.flat {ρ : Nat → Addr} {n : Nat} {H : Hp} {v : Val} {x : V} (f : MP.flat v = true) (t : VR g ρ n H v x) : x = fv v := by
  cases v with
  | non => exact t.of_non
  | bl b => exact t.of_bl
  | int i => exact t.of_int
  | str s => exact t.of_str.1
  | _ => cases f
theorem VRs.flat {ρ : Nat → Addr} {n : Nat} {H : Hp} : ∀ {vs : List Val} {xs : List V}, vs.all MP.flat = true → VRs g ρ n H vs xs → xs = vs.map fv
  | [], xs, _, t => by rw [VRs] at t; exact t
  | v :: vs, xs, f, t => by
    rw [VRs] at t
    obtain ⟨x, r, rfl, e1, e2⟩ := t
    rw [List.all_cons, Bool.and_eq_true] at f
    rw [List.map_cons, ← e1.flat f.1, ← VRs.flat f.2 e2]
theorem flat_fv {v : Val} (f : flat v = true) : flatV (fv v) = true := by cases v <;> first | rfl | cases f
theorem all_flat : ∀ {vs : List Val}, vs.all flat = true → (vs.map fv).all flatV = true
  | [], _ => rfl
  | v :: vs, f => by
    rw [List.all_cons, Bool.and_eq_true] at f
    rw [List.map_cons, List.all_cons, flat_fv f.1, all_flat f.2]; rfl
theorem eqV_fv {a b : Val} (fa : flat a = true) (fb : flat b = true) : eqV (fv a) (fv b) = eqF a b := by
  cases a <;> cases b <;> first | rfl | (exact absurd fa Bool.false_ne_true) | (exact absurd fb Bool.false_ne_true)
theorem inV_fv {x : Val} (fx : flat x = true) : ∀ {vs : List Val}, vs.all flat = true → inV (fv x) (vs.map fv) = vs.any fun z => eqF z x
  | [], _ => rfl
  | v :: vs, f => by
    rw [List.all_cons, Bool.and_eq_true] at f
    show (eqV (fv v) (fv x) || inV (fv x) (vs.map fv)) = _
    rw [eqV_fv f.1 fx, inV_fv fx f.2]
    rfl
theorem KR.look {ρ : Nat → Addr} {n : Nat} {H : Hp} (k : Key) : ∀ {vs : List (Key × Val)} {xs : List (Key × V)}, KR g ρ n H vs xs →
    (lookK vs k = none ∧ valV xs k = none) ∨ ∃ v x, lookK vs k = some v ∧ valV xs k = some x ∧ VR g ρ n H v x
  | [], xs, t => by rw [KR] at t; subst t; exact .inl ⟨rfl, rfl⟩
  | (k', v) :: vs, xs, t => by
    rw [KR] at t
    obtain ⟨x, r, rfl, e1, e2⟩ := t
    by_cases hk : k' = k
    · exact .inr ⟨v, x, by simp [lookK, List.find?_cons, hk], valV_pos hk, e1⟩
    · rcases KR.look k e2 with ⟨a, b⟩ | ⟨v', x', a, b, c⟩
      · exact .inl ⟨by simpa [lookK, List.find?_cons, hk] using a, by rw [valV_neg hk]; exact b⟩
      · exact .inr ⟨v', x', by simpa [lookK, List.find?_cons, hk] using a, by rw [valV_neg hk]; exact b, c⟩
theorem keyV_ok {ρ : Nat → Addr} {n : Nat} {H : Hp} {v : Val} {x : V} {k : Key} (e : keyV v = some k) (t : VR g ρ n H v x) : x = kV k := by
  cases v with
  | int i => cases e; exact t.of_int
  | str s => cases e; exact t.of_str.1
  | _ => cases e
theorem hu1 {X : Cx} {W : WX} {N : List Str} {sc : Scope} (G : Good g X N sc W lv) : X.A.units + 1 < cLine := hu_of G.room
theorem co_lt : SoO g lv (compareOp .Lt) (cop .lt) := by
  intro X W N sc G ρ h H σ x y vx vy Q r tx ty q
  cases x <;> cases y <;> first
    | exact q.elim
    | (rename_i i j
       cases tx.of_int; cases ty.of_int
       exact op_lt.se ⟨i, j, rfl, rfl, QR.ok (T := VR g) r VR.bl q⟩)
    | (rename_i i j
       obtain ⟨rfl, hi⟩ := tx.of_str; obtain ⟨rfl, hj⟩ := ty.of_str
       exact op_lt_str.se ⟨i, j, rfl, rfl, QR.ok (T := VR g) r VR.bl q⟩)
theorem co_le : SoO g lv (compareOp .LtE) (cop .le) := by
  intro X W N sc G ρ h H σ x y vx vy Q r tx ty q
  cases x <;> cases y <;> first
    | exact q.elim
    | (rename_i i j
       cases tx.of_int; cases ty.of_int
       exact op_le.se ⟨i, j, rfl, rfl, QR.ok (T := VR g) r VR.bl q⟩)
theorem co_gt : SoO g lv (compareOp .Gt) (cop .gt) := by
  intro X W N sc G ρ h H σ x y vx vy Q r tx ty q
  cases x <;> cases y <;> first
    | exact q.elim
    | (rename_i i j
       cases tx.of_int; cases ty.of_int
       exact op_gt.se ⟨i, j, rfl, rfl, QR.ok (T := VR g) r VR.bl q⟩)
theorem co_ge : SoO g lv (compareOp .GtE) (cop .ge) := by
  intro X W N sc G ρ h H σ x y vx vy Q r tx ty q
  cases x <;> cases y <;> first
    | exact q.elim
    | (rename_i i j
       cases tx.of_int; cases ty.of_int
       exact op_ge.se ⟨i, j, rfl, rfl, QR.ok (T := VR g) r VR.bl q⟩)
theorem VR.ne_non {ρ : Nat → Addr} {n : Nat} {H : Hp} {v : Val} {x : V} (hv : v ≠ .non) (t : VR g ρ n H v x) : x ≠ .non := by
  rintro rfl
  cases v with
  | non => exact hv rfl
  | bl b => exact nomatch t.of_bl
  | int i => exact nomatch t.of_int
  | str s => exact nomatch t.of_str.1
  | tup vs => obtain ⟨_, _, z, _⟩ := t.of_tup; exact nomatch z
  | ref i => exact nomatch t.of_ref.2
  | cls c => rw [VR] at t; exact nomatch t
  | ty n => rw [VR] at t; exact nomatch t
  | scr ns => rw [VR] at t; obtain ⟨_, z, _⟩ := t; exact nomatch z
  | exc c f v => rw [VR] at t; obtain ⟨_, _, z, _⟩ := t; exact nomatch z
  | exc0 c => rw [VR] at t; obtain ⟨_, z, _⟩ := t; exact nomatch z
theorem co_is : SoO g lv (compareOp .Is) (cop .is) := by
  intro X W N sc G ρ h H σ x y vx vy Q r tx ty q
  cases y <;> first
    | exact q.elim
    | (cases ty.of_non
       refine op_isN.se ⟨rfl, ?_⟩
       by_cases hx : x = .non
       · subst hx
         cases tx.of_non
         exact QR.ok (T := VR g) r VR.bl q
       · rw [decide_eq_false (tx.ne_non hx)]
         cases x <;> first | exact absurd rfl hx | exact QR.ok (T := VR g) r VR.bl q)
    | (rename_i b
       cases ty.of_bl
       cases x <;> first
         | exact q.elim
         | (rename_i a
            cases tx.of_bl
            exact op_is_bl.se ⟨a, b, rfl, rfl, QR.ok (T := VR g) r VR.bl q⟩))
theorem co_isn : SoO g lv (compareOp .IsNot) (cop .isn) := by
  intro X W N sc G ρ h H σ x y vx vy Q r tx ty q
  cases y <;> first
    | exact q.elim
    | (cases ty.of_non
       refine op_notN.se ⟨rfl, ?_⟩
       by_cases hx : x = .non
       · subst hx
         cases tx.of_non
         exact QR.ok (T := VR g) r VR.bl q
       · rw [decide_eq_false (tx.ne_non hx)]
         cases x <;> first | exact absurd rfl hx | exact QR.ok (T := VR g) r VR.bl q)
    | (rename_i b
       cases ty.of_bl
       cases x <;> first
         | exact q.elim
         | (rename_i a
            cases tx.of_bl
            exact op_isnot_bl.se ⟨a, b, rfl, rfl, QR.ok (T := VR g) r VR.bl q⟩))
theorem so_dget {X : Cx} {W : WX} {N : List Str} {sc : Scope} (G : Good g X N sc W lv) {ρ : Nat → Addr} {h : Heap} {H : Hp} (r : Rel g ρ h H) {i : Nat} {kvs : List (Key × Val)} (e : rd h i = some (.dct kvs)) {x : Val} {vx : V} {k : Key} (ek : keyV x = some k) (tx : VR g ρ h.length H x vx) :
    ∃ o, DGet H (ρ i) vx o ∧ ((lookK kvs k = none ∧ o = none) ∨ ∃ v y, lookK kvs k = some v ∧ o = some y ∧ VR g ρ h.length H v y) := by
  obtain ⟨xs, e1, e2, _⟩ := r.dct e
  refine ⟨valV xs k, .inl ⟨xs, k, e1, keyV_ok ek tx, rfl⟩, ?_⟩
  exact e2.look k
theorem co_in : SoO g lv (compareOp .In) (cop .in_) := by
  intro X W N sc G ρ h H σ x y vx vy Q r tx ty q
  cases y with
  | tup xs =>
    obtain ⟨a, us, rfl, hq, hv⟩ := ty.of_tup
    simp only [cop] at q
    split at q
    · rename_i hf
      rw [Bool.and_eq_true] at hf
      cases tx.flat hf.1
      cases hv.flat hf.2
      refine op_in_seq.se ⟨a, _, rfl, .inr (by rw [G.hK]; exact hq), flat_fv hf.1, all_flat hf.2, ?_⟩
      rw [inV_fv hf.1 hf.2]
      exact QR.ok (T := VR g) r VR.bl q
    · exact q.elim
  | str z =>
    obtain ⟨rfl, _⟩ := ty.of_str
    cases x with
    | str s =>
      obtain ⟨rfl, _⟩ := tx.of_str
      simp only [cop] at q
      split at q
      · rename_i c hc
        have es : s = ⟨#[c]⟩ := by
          obtain ⟨a⟩ := s
          obtain ⟨l⟩ := a
          cases (show l = [c] from hc)
          rfl
        subst es
        exact op_in_sign.se ⟨c, z, rfl, rfl, QR.ok (T := VR g) r VR.bl q⟩
      · exact op_in_str.se ⟨s, z, rfl, rfl, by unfold subS at q; exact QR.ok (T := VR g) r VR.bl q⟩
    | _ => exact q.elim
  | ref i =>
    obtain ⟨_, rfl⟩ := ty.of_ref
    simp only [cop] at q
    split at q
    · rename_i xs e
      split at q
      · rename_i hf
        rw [Bool.and_eq_true] at hf
        obtain ⟨us, hq, hv, _⟩ := r.lst e
        cases tx.flat hf.1
        cases hv.flat hf.2
        refine op_in_seq.se ⟨_, _, rfl, .inl (by rw [G.hK]; exact hq), flat_fv hf.1, all_flat hf.2, ?_⟩
        rw [inV_fv hf.1 hf.2]
        exact QR.ok (T := VR g) r VR.bl q
      · exact q.elim
    · rename_i kvs e
      split at q
      · rename_i k ek
        obtain ⟨o, hg, ho⟩ := so_dget G r e ek tx
        intro pins s σ v u I rx ry
        cases (show u = Value.ref (ρ i) from ry)
        refine d_in (hu1 G) I hg rx fun s' I' => ⟨.bl _, H, I', rfl, ?_⟩
        rcases ho with ⟨a, b⟩ | ⟨v', y', a, b, _⟩ <;> (rw [a] at q; rw [b]; exact QR.ok (T := VR g) r VR.bl q)
      · exact q.elim
    · exact q.elim
  | _ => exact q.elim
theorem co_nin : SoO g lv (compareOp .NotIn) (cop .nin) := by
  intro X W N sc G ρ h H σ x y vx vy Q r tx ty q
  cases y with
  | tup xs =>
    obtain ⟨a, us, rfl, hq, hv⟩ := ty.of_tup
    simp only [cop] at q
    split at q
    · rename_i hf
      rw [Bool.and_eq_true] at hf
      cases tx.flat hf.1
      cases hv.flat hf.2
      refine op_notIn_seq.se ⟨a, _, rfl, .inr (by rw [G.hK]; exact hq), flat_fv hf.1, all_flat hf.2, ?_⟩
      rw [inV_fv hf.1 hf.2]
      exact QR.ok (T := VR g) r VR.bl q
    · exact q.elim
  | str z =>
    obtain ⟨rfl, _⟩ := ty.of_str
    cases x with
    | str s =>
      obtain ⟨rfl, _⟩ := tx.of_str
      simp only [cop] at q
      split at q
      · rename_i c hc
        have es : s = ⟨#[c]⟩ := by
          obtain ⟨a⟩ := s
          obtain ⟨l⟩ := a
          cases (show l = [c] from hc)
          rfl
        subst es
        exact op_notIn_sign.se ⟨c, z, rfl, rfl, QR.ok (T := VR g) r VR.bl q⟩
      · exact op_notIn_str.se ⟨s, z, rfl, rfl, by unfold subS at q; exact QR.ok (T := VR g) r VR.bl q⟩
    | _ => exact q.elim
  | ref i =>
    obtain ⟨_, rfl⟩ := ty.of_ref
    simp only [cop] at q
    split at q
    · rename_i xs e
      split at q
      · rename_i hf
        rw [Bool.and_eq_true] at hf
        obtain ⟨us, hq, hv, _⟩ := r.lst e
        cases tx.flat hf.1
        cases hv.flat hf.2
        refine op_notIn_seq.se ⟨_, _, rfl, .inl (by rw [G.hK]; exact hq), flat_fv hf.1, all_flat hf.2, ?_⟩
        rw [inV_fv hf.1 hf.2]
        exact QR.ok (T := VR g) r VR.bl q
      · exact q.elim
    · rename_i kvs e
      split at q
      · rename_i k ek
        obtain ⟨o, hg, ho⟩ := so_dget G r e ek tx
        intro pins s σ v u I rx ry
        cases (show u = Value.ref (ρ i) from ry)
        refine d_notIn (hu1 G) I hg rx fun s' I' => ⟨.bl _, H, I', rfl, ?_⟩
        rcases ho with ⟨a, b⟩ | ⟨v', y', a, b, _⟩ <;> (rw [a] at q; rw [b]; exact QR.ok (T := VR g) r VR.bl q)
      · exact q.elim
    · exact q.elim
  | _ => exact q.elim
end
end MP
end
section
set_option autoImplicit false
set_option linter.all false
namespace MP
open PySem L2 PySem.Calls
def noSuper : Expr → Bool
  | .Call (.Name id _) _ _ _ => id != ("super" : Str)
  | _ => true
theorem base_plain {o : Expr} (h : noSuper o = true) (attr : Str) (env : PySem.Env) (whole : Sem Value) : attributeBase o attr env whole = whole := by
  unfold attributeBase
  split
  · rename_i id p pos
    have h1 : (id != ("super" : Str)) = true := h
    simp only [h1, Bool.true_or, if_true]
    first | done | exact bind_pure whole
  · rfl
theorem keyword_nil (pos : Pos) (env : PySem.Env) : backToKw pos (keywordEach [] env) = [] := rfl
theorem meth_form {args : List Expr} (hs : args.all (fun e => !isSt e) = true) (hn : args.length < 29) (pos : Pos) (env : PySem.Env) : methodCallForm (args.length + ([] : List Keyword).length) (backTo pos (starEach args env)) (backToKw pos (keywordEach [] env)) = true := by
  unfold methodCallForm
  rw [keyword_nil]
  have h1 : (backTo pos (starEach args env)).all (fun x => !x.1) = true := by
    rw [List.all_eq_true]
    intro x hx
    have := noStar hs pos env
    rw [List.any_eq_false] at this
    simpa using this x hx
  rw [h1]
  simp
  omega
theorem meth_eval {o : Expr} {m : Str} {apos pos : Pos} {args : List Expr} {env : PySem.Env} (hb : noSuper o = true) (hs : args.all (fun e => !isSt e) = true) (hn : args.length < 29) (hl : (apos.endLine == pos.line) = true) :
    PySem.eval (.Call (.Attribute o m apos) args [] pos) env = (do
      let ov ← PySem.eval o env
      standAt apos.atName
      let (f, first) ← holding [ov] (getMethod ov m (do return (← importBound o env).getD true))
      callWith pos f first (backTo pos (starEach args env)) (backToKw pos (keywordEach [] env))) := by
  rw [arm_eval_Call, base_plain hb]
  unfold methodCall
  rw [meth_form hs hn]
  unfold calleeOf methodCallPos
  simp only [if_true, hl, Bool.or_true]
  rfl
section
variable {g : G} {lv : Nat} {N : List Str} {sc : Scope}
/-- the promise of a def, by the evaluator's function -/
def spF (g : G) (np : Nat) (cf : List Val → Heap → Rs Val) : Sp := fun vs H Q E => ∃ (ρ : Nat → Addr) (h : Heap) (args : List Val), Rel g ρ h H ∧ VRs g ρ h.length H args vs ∧ args.length = np ∧ QR g (VR g) (fun cls d _ H' => E cls d H') ρ h H [] (cf args h) Q
theorem spF_of {np : Nat} {cf : List Val → Heap → Rs Val} {ρ : Nat → Addr} {h : Heap} {H : Hp} {W : WX} {σ : L2.St} {args : List Val} {vs : List V} {Q : VK} (r : Rel g ρ h H) (t : VRs g ρ h.length H args vs) (hn : args.length = np) (q : QR g (VR g) W ρ h H σ (cf args h) Q) : spF g np cf vs H Q (WE W σ) := by
  refine ⟨ρ, h, args, r, t, hn, ?_⟩
  cases z : cf args h with
  | ok a h' => rw [z] at q; exact q
  | ex c fs h' => rw [z] at q; exact q
  | bad => rw [z] at q; exact q
abbrev CXg (g : G) : CXT := L2.CX g.P g.w
/-- a def as it may be called with so many values (and dv for the others) -/
structure DOk (g : G) (lv : Nat) (np : Nat) (cf : List Val → Heap → Rs Val) (f : Addr) (fd : FuncData) (ps : List Str) : Prop where
  fn : FnOk g.P g.w g.K g.mg g.base (CXg g) lv f fd ps (spF g np cf)
/-- the defaults that fill up -/
structure DV (g : G) (fd : FuncData) (ps : List Str) (dv : List Val) : Prop where
  ex : ∃ (ds : List Value) (dvs : List V), Binds g.K fd ps ds ∧ Vals dvs ds ∧ ∀ (ρ : Nat → Addr) (n : Nat) (H : Hp), VRs g ρ n H dv dvs
theorem Good.fn {X : Cx} {W : WX} (G : Good g X N sc W lv) {k : Nat} {f : Addr} {fd : FuncData} {ps : List Str} {sp : Sp} (F : FnOk g.P g.w g.K g.mg g.base (CXg g) k f fd ps sp) : FnOk X.prog X.w X.K X.mg X.base (L2.CX X.prog X.w) k f fd ps sp := by
  rw [G.hP, G.hw, G.hK, G.hmg, G.hbase]; exact F
theorem Good.gl {X : Cx} {W : WX} (G : Good g X N sc W lv) {x : Str} (h : sc.names.lookup x = some .globalImplicit) : Gl X x := by
  exact G.hsc.same (by decide) h
/-- the callee runs -/
theorem run_call {X : Cx} {W : WX} (G : Good g X N sc W lv) {k np : Nat} {cf : List Val → Heap → Rs Val} {f : Addr} {fd : FuncData} {ps : List Str} {dv : List Val} (D : DOk g k np cf f fd ps) (hk : k ≤ lv) (V : DV g fd ps dv)
    {pins : List (Addr × Obj)} {s : Shared} {ρ : Nat → Addr} {h : Heap} {H : Hp} {σ : L2.St} {args : List Val} {vs : List L2.V} {us : List Value} {Q : VK} (I : Inv X pins σ H s) (r : Rel g ρ h H) (t : VRs g ρ h.length H args vs) (hu : Vals vs us) (hn : (args ++ dv).length = np)
    (q : QR g (VR g) W ρ h H σ (cf (args ++ dv) h) Q) : wpAny (model X.prog X.w) X.A (call (.ref f) us) (EP X pins σ Q) X.xe s := by
  obtain ⟨ds, dvs, b, hd, hv⟩ := V.ex
  exact run_fnSD (E := WE W) (G.fn D.fn) (G.room.mono hk) (by rw [G.hK]; exact b) hd (passAt G.tk σ) I hu (spF_of r (t.append (hv ρ h.length H)) hn q)
def eCall (np : Nat) (cf : List Val → Heap → Rs Val) (dv : List Val) (fs : Env → Heap → Rs (List Val)) : Fe := fun env h => (fs env h).bind fun vs h1 => if (vs ++ dv).length = np then cf (vs ++ dv) h1 else .bad
theorem so_call {k np : Nat} {cf : List Val → Heap → Rs Val} {f : Addr} {fd : FuncData} {ps : List Str} {dv : List Val} (D : DOk g k np cf f fd ps) (hk : k ≤ lv) (V : DV g fd ps dv) {x : Str} {p pos : Pos} {e : Expr} {es : List Expr} {fs : Env → Heap → Rs (List Val)}
    (hx : sc.names.lookup x = some .globalImplicit) (hm : g.mg x = some (.ref f)) (hkp : PySem.W.keepIn g.K (.ref f) = true) (hdb : (x == ("__debug__" : Str)) = false) (hs : (e :: es).all (fun e => !isSt e) = true) (ha : SoA g lv N sc fs (e :: es)) :
    SoE g lv N sc (eCall np cf dv fs) (.Call (.Name x p) (e :: es) [] pos) := by
  intro X W G ρ h H env σ Q r er q pins s I
  have hm' : X.mg x = some (.ref f) := by rw [G.hmg]; exact hm
  have hkp' : PySem.W.keepIn X.K (.ref f) = true := by rw [G.hK]; exact hkp
  refine wpAny_Call_Name_kw (ld_glob I (G.gl hx) hm' ?_ hdb)
  simp only [List.all_cons, Bool.and_eq_true, Bool.not_eq_true'] at hs
  refine PySem.W.callWith_K (h₀ := X.base) I.ok.mod.kin hkp' (thn (ha X W G ρ h H env σ (fun vs H1 => ∀ (s : Shared), Inv X pins σ H1 s → ∀ us, Vals vs us → wpAny (model X.prog X.w) X.A (call (.ref f) us) (EP X pins σ Q) X.xe s) r er (QR.imp (QR.bind q) fun xs H1 ⟨ρ1, h1, vs, s1, r1, t1, _, q1⟩ => ?_) pos pins s I) fun us s1 ⟨vs, H1, I1, hu, k1⟩ => ⟨I1.kIn, k1 s1 I1 us hu⟩) (starEach_plain hs.1 es X.env) (noStar hs.2 pos X.env)
  intro s I us hu
  by_cases hn : (vs ++ dv).length = np
  · rw [if_pos hn] at q1
    exact run_call G D hk V I r1 t1 hu hn q1
  · rw [if_neg hn] at q1; exact q1.elim
theorem so_call0 {k np : Nat} {cf : List Val → Heap → Rs Val} {f : Addr} {fd : FuncData} {ps : List Str} {dv : List Val} (D : DOk g k np cf f fd ps) (hk : k ≤ lv) (V : DV g fd ps dv) {x : Str} {p pos : Pos}
    (hx : sc.names.lookup x = some .globalImplicit) (hm : g.mg x = some (.ref f)) (hkp : PySem.W.keepIn g.K (.ref f) = true) (hdb : (x == ("__debug__" : Str)) = false) :
    SoE g lv N sc (eCall np cf dv fun _ h => .ok [] h) (.Call (.Name x p) [] [] pos) := by
  intro X W G ρ h H env σ Q r er q pins s I
  have hm' : X.mg x = some (.ref f) := by rw [G.hmg]; exact hm
  have hkp' : PySem.W.keepIn X.K (.ref f) = true := by rw [G.hK]; exact hkp
  refine wpAny_Call_Name_kw (ld_glob I (G.gl hx) hm' (PySem.W.callWith_K0 I.kIn hkp' ?_) hdb)
  have q1 : QR g (VR g) W ρ h H σ (if ([] ++ dv).length = np then cf ([] ++ dv) h else .bad) Q := q
  by_cases hn : ([] ++ dv : List Val).length = np
  · rw [if_pos hn] at q1
    exact run_call (vs := []) (us := []) G D hk V I r (by rw [VRs]) .nil hn q1
  · rw [if_neg hn] at q1; exact q1.elim
/-- the new instance, empty -/
def mk0 (c : Nat) (h : Heap) : Heap := h ++ [(false, .ins c [])]
def eMake (c np : Nat) (cf : List Val → Heap → Rs Val) (dv : List Val) (fs : Env → Heap → Rs (List Val)) : Fe := fun env h => (fs env h).bind fun vs h1 =>
  if (Val.ref h1.length :: (vs ++ dv)).length = np then (cf (.ref h1.length :: (vs ++ dv)) (mk0 c h1)).bind fun v h2 => (match v with
    | .non => .ok (.ref h1.length) h2
    | _ => .bad) else .bad
theorem made_rel {ρ : Nat → Addr} {h : Heap} {H : Hp} {x dx : Addr} {c : Nat} (r : Rel g ρ h H) (nx : H x = none) (ndx : H dx = none) (ne : dx ≠ x) :
    Stp ρ (ext ρ h.length x) h (mk0 c h) H (upd (upd H dx (.own x)) x (.ins (g.C c) dx [])) ∧ Rel g (ext ρ h.length x) (mk0 c h) (upd (upd H dx (.own x)) x (.ins (g.C c) dx [])) := by
  have r1 : Rel g ρ h (upd H dx (.own x)) := r.fresh ndx
  have nx1 : upd H dx (.own x) x = none := by rw [upd_ne (Ne.symm ne)]; exact nx
  exact ⟨(Stp.fresh r ndx).trans (Stp.alloc r1 nx1), r1.alloc nx1 ⟨dx, [], upd_same, by rw [KR]⟩⟩
theorem run_mk {X : Cx} {W : WX} (G : Good g X N sc W lv) {k np c : Nat} {cf : List Val → Heap → Rs Val} {f : Addr} {fd : FuncData} {ps : List Str} {dv : List Val} (M : Mk g.K (g.C c) f) (D : DOk g k np cf f fd ps) (hk : k + 1 ≤ lv) (V : DV g fd ps dv)
    {pins : List (Addr × Obj)} {s : Shared} {ρ : Nat → Addr} {h : Heap} {H : Hp} {σ : L2.St} {args : List Val} {vs : List L2.V} {us : List Value} {Q : VK} (I : Inv X pins σ H s) (r : Rel g ρ h H) (t : VRs g ρ h.length H args vs) (hu : Vals vs us)
    (q : QR g (VR g) W ρ h H σ (if (Val.ref h.length :: (args ++ dv)).length = np then (cf (.ref h.length :: (args ++ dv)) (mk0 c h)).bind fun v h2 => (match v with
    | .non => .ok (.ref h.length) h2
    | _ => .bad) else .bad) Q) : wpAny (model X.prog X.w) X.A (call (.ref (g.C c)) us) (EP X pins σ Q) X.xe s := by
  by_cases hn : (Val.ref h.length :: (args ++ dv)).length = np
  · rw [if_pos hn] at q
    obtain ⟨ds, dvs, b, hd, hv⟩ := V.ex
    have M' : Mk X.K (g.C c) f := by rw [G.hK]; exact M
    have F := G.fn D.fn
    have hr : Room (k + 1) X.A := G.room.mono hk
    have nx : H (s.heap.objs.size + 1) = none := I.hok.fresh (Nat.le_succ _)
    have ndx : H s.heap.objs.size = none := I.hok.fresh (Nat.le_refl _)
    obtain ⟨st, rl⟩ := made_rel (c := c) r nx ndx (Nat.ne_of_lt (Nat.lt_succ_self _))
    have I2 := Inv.made (C := g.C c) I
    have r2 : Vals (L2.V.ref (s.heap.objs.size + 1) :: (vs ++ dvs)) (Value.ref (s.heap.objs.size + 1) :: (us ++ ds)) := .cons rfl (hu.append hd)
    have t2 : VRs g (ext ρ h.length (s.heap.objs.size + 1)) (mk0 c h).length (upd (upd H s.heap.objs.size (.own (s.heap.objs.size + 1))) (s.heap.objs.size + 1) (.ins (g.C c) s.heap.objs.size [])) (Val.ref h.length :: (args ++ dv)) (L2.V.ref (s.heap.objs.size + 1) :: (vs ++ dvs)) := by
      rw [VRs]
      refine ⟨_, _, rfl, ?_, (t.append (hv ρ h.length H)).step r st⟩
      rw [VR]
      exact ⟨by simp [mk0], by rw [ext_new]⟩
    have q0 := QR.step st q
    have hq : spF g np cf (L2.V.ref (s.heap.objs.size + 1) :: (vs ++ dvs)) (upd (upd H s.heap.objs.size (.own (s.heap.objs.size + 1))) (s.heap.objs.size + 1) (.ins (g.C c) s.heap.objs.size [])) (fun v H2 => v = .non ∧ Q (.ref (s.heap.objs.size + 1)) H2) (WE W σ) := by
      refine spF_of rl t2 hn (QR.imp (QR.bind q0) fun v H2 ⟨ρ3, h3, v', s3, r3, t3, _, q3⟩ => ?_)
      cases v' with
      | non =>
        refine ⟨t3.of_non, QR.ok (T := VR g) r3 ?_ q3⟩
        rw [VR]
        refine ⟨Nat.lt_of_lt_of_le (by simp [mk0]) s3.len, ?_⟩
        rw [s3.agr _ (by simp [mk0]), ext_new]
      | _ => exact q3.elim
    have hl : (Value.ref (s.heap.objs.size + 1) :: us ++ ds).length = ps.length := by
      have e := r2.length
      rw [F.len _ _ _ _ hq] at e
      exact e.symm
    refine wpAny_call (make_map (f := f) I.kIn M'.makes M'.init (beq_iff_eq.mp M'.fn) (codeAny_mono (F.run _ X.stack _ _ ⟨Value.ref (s.heap.objs.size + 1) :: us, []⟩ (Value.ref (s.heap.objs.size + 1) :: (us ++ ds)) _ _ (WE W σ) (hr.make (g.C c) us [])
      (I2.env0.make (g.C c) us []) ((by rw [G.hK]; exact b : Binds X.K fd ps ds) _ (Value.ref (s.heap.objs.size + 1) :: us) I2.kIn hl) r2 hq) fun r s' hq' => ?_))
    cases r with
    | error e => exact passAt G.tk σ pins _ _ e s' I2 hq'
    | ok fl =>
      cases fl with
      | ret u =>
        obtain ⟨v, H', I3, rv, ev, q3⟩ := I2.after hq'
        subst ev
        exact ⟨rv, ⟨L2.V.ref (s.heap.objs.size + 1), H', I3, rfl, q3⟩⟩
      | next => exact False.elim hq'
      | brk => exact False.elim hq'
      | cont => exact False.elim hq'
  · rw [if_neg hn] at q; exact q.elim
theorem so_make {k np c : Nat} {cf : List Val → Heap → Rs Val} {f : Addr} {fd : FuncData} {ps : List Str} {dv : List Val} (M : Mk g.K (g.C c) f) (D : DOk g k np cf f fd ps) (hk : k + 1 ≤ lv) (V : DV g fd ps dv) {x : Str} {p pos : Pos} {e : Expr} {es : List Expr} {fs : Env → Heap → Rs (List Val)}
    (hx : sc.names.lookup x = some .globalImplicit) (hm : g.mg x = some (.ref (g.C c))) (hdb : (x == ("__debug__" : Str)) = false) (hs : (e :: es).all (fun e => !isSt e) = true) (ha : SoA g lv N sc fs (e :: es)) :
    SoE g lv N sc (eMake c np cf dv fs) (.Call (.Name x p) (e :: es) [] pos) := by
  intro X W G ρ h H env σ Q r er q pins s I
  have hm' : X.mg x = some (.ref (g.C c)) := by rw [G.hmg]; exact hm
  have hkp' : PySem.W.keepIn X.K (.ref (g.C c)) = true := by rw [G.hK]; exact M.kp
  refine wpAny_Call_Name_kw (ld_glob I (G.gl hx) hm' ?_ hdb)
  simp only [List.all_cons, Bool.and_eq_true, Bool.not_eq_true'] at hs
  refine PySem.W.callWith_K (h₀ := X.base) I.ok.mod.kin hkp' (thn (ha X W G ρ h H env σ (fun vs H1 => ∀ (s : Shared), Inv X pins σ H1 s → ∀ us, Vals vs us → wpAny (model X.prog X.w) X.A (call (.ref (g.C c)) us) (EP X pins σ Q) X.xe s) r er (QR.imp (QR.bind q) fun xs H1 ⟨ρ1, h1, vs, s1, r1, t1, _, q1⟩ => ?_) pos pins s I) fun us s1 ⟨vs, H1, I1, hu, k1⟩ => ⟨I1.kIn, k1 s1 I1 us hu⟩) (starEach_plain hs.1 es X.env) (noStar hs.2 pos X.env)
  intro s I us hu
  exact run_mk G M D hk V I r1 t1 hu q1
def insOf (v : Val) (h : Heap) : Option (Nat × List (Str × Val)) := match v with
  | .ref a => (match rd h a with
    | some (.ins c fs) => some (c, fs)
    | _ => none)
  | _ => none
theorem KR.lookup_none {ρ : Nat → Addr} {n : Nat} {H : Hp} {m : Str} : ∀ {fs : List (Str × Val)} {xs : List (Str × L2.V)}, KR g ρ n H fs xs → fs.lookup m = none → xs.lookup m = none
  | [], xs, t, _ => by rw [KR] at t; subst t; rfl
  | (k, v) :: fs, xs, t, e => by
    rw [KR] at t
    obtain ⟨x, r, rfl, _, t2⟩ := t
    rw [List.lookup_cons] at e ⊢
    cases hk : (m == k) with
    | true => rw [hk] at e; cases e
    | false => rw [hk] at e; exact KR.lookup_none t2 e
theorem KR.lookup_some {ρ : Nat → Addr} {n : Nat} {H : Hp} {m : Str} : ∀ {fs : List (Str × Val)} {xs : List (Str × L2.V)} {v : Val}, KR g ρ n H fs xs → fs.lookup m = some v → ∃ x, xs.lookup m = some x ∧ VR g ρ n H v x
  | [], xs, v, t, e => by cases e
  | (k, v') :: fs, xs, v, t, e => by
    rw [KR] at t
    obtain ⟨x, r, rfl, t1, t2⟩ := t
    rw [List.lookup_cons] at e ⊢
    cases hk : (m == k) with
    | true => rw [hk] at e; cases e; exact ⟨x, rfl, t1⟩
    | false => rw [hk] at e; exact KR.lookup_some t2 e
/-- what a method of a class is: the class, the function's number of values and its function -/
structure MI where
  np : Nat
  cf : List Val → Heap → Rs Val
  dv : List Val
def eMeth (tab : Nat → Option MI) (m : Str) (fo : Fe) (fs : Env → Heap → Rs (List Val)) : Fe := fun env h => (fo env h).bind fun v h1 => match insOf v h1 with
  | some (c, fl) => (match tab c, fl.lookup m with
    | some i, none => (fs env h1).bind fun vs h2 => if (v :: (vs ++ i.dv)).length = i.np then i.cf (v :: (vs ++ i.dv)) h2 else .bad
    | _, _ => .bad)
  | none => .bad
/-- what is known of a method -/
structure MOk (g : G) (lv : Nat) (c : Nat) (m : Str) (i : MI) : Prop where
  ex : ∃ (k : Nat) (f : Addr) (fd : FuncData) (ps : List Str), k ≤ lv ∧ L2.Cls g.K (g.C c) ∧ Meth g.K (g.C c) m f ∧ DOk g k i.np i.cf f fd ps ∧ DV g fd ps i.dv
theorem insOf_ok {v : Val} {h : Heap} {c : Nat} {fs : List (Str × Val)} (e : insOf v h = some (c, fs)) : ∃ a, v = .ref a ∧ rd h a = some (.ins c fs) := by
  cases v with
  | ref a =>
    refine ⟨a, rfl, ?_⟩
    unfold insOf at e
    dsimp only at e
    split at e
    · rename_i c' fs' z
      cases e
      exact z
    · cases e
  | _ => cases e
theorem so_meth {tab : Nat → Option MI} {m : Str} (T : ∀ c i, tab c = some i → MOk g lv c m i) {fo : Fe} {fs : Env → Heap → Rs (List Val)} {o e : Expr} {es : List Expr} {apos pos : Pos} (hb : noSuper o = true) (hs : (e :: es).all (fun e => !isSt e) = true) (hn : (e :: es).length < 29) (hl : (apos.endLine == pos.line) = true)
    (ho : SoE g lv N sc fo o) (ha : SoA g lv N sc fs (e :: es)) : SoE g lv N sc (eMeth tab m fo fs) (.Call (.Attribute o m apos) (e :: es) [] pos) := by
  intro X W G ρ h H env σ Q r er q pins s I
  refine PySem.W.methodCall_KW (thn (ho X W G ρ h H env σ (fun x H1 => ∀ (s : Shared) (u : Value), Inv X pins σ H1 s → RelV x u → wpAny (model X.prog X.w) X.A (getMethod u m (do return (← importBound o X.env).getD true)) (fun fx s₂ => wpAny (model X.prog X.w) X.A (callWith pos fx.1 fx.2 (backTo pos (starEach (e :: es) X.env)) (backToKw pos (keywordEach [] X.env))) (EP X pins σ Q) X.xe s₂) X.xe s) r er (QR.imp (QR.bind q) fun x H1 ⟨ρ1, h1, v, s1, r1, t1, _, q1⟩ => ?_) pins s I) fun u s1 ⟨x, H1, I1, rx, k1⟩ => k1 s1 u I1 rx) (meth_eval hb hs hn hl)
  intro s u I rx
  cases z : insOf v h1 with
  | none => rw [z] at q1; exact q1.elim
  | some cf =>
    obtain ⟨c, fl⟩ := cf
    rw [z] at q1
    dsimp only at q1
    obtain ⟨a, rfl, za⟩ := insOf_ok z
    cases zt : tab c with
    | none => rw [zt] at q1; exact q1.elim
    | some i =>
      cases zl : fl.lookup m with
      | some v' => rw [zt, zl] at q1; exact q1.elim
      | none =>
        rw [zt, zl] at q1
        obtain ⟨k, f, fd, ps, hk, cl, mt, D, V⟩ := (T c i zt).ex
        obtain ⟨ha1, rfl⟩ := t1.of_ref
        obtain ⟨dx, xs, e1, e2⟩ := r1.ins za
        cases (show u = Value.ref (ρ1 a) from rx)
        refine getmeth_ok I e1 (by rw [G.hK]; exact cl) (by rw [G.hK]; exact mt) (e2.lookup_none zl) ?_
        simp only [List.all_cons, Bool.and_eq_true, Bool.not_eq_true'] at hs
        refine PySem.W.callWith_K (first := [.ref (ρ1 a)]) (h₀ := X.base) I.ok.mod.kin (by rw [G.hK]; exact mt.kp) (thn (ha X W G ρ1 h1 H1 env σ (fun vs H2 => ∀ (s : Shared), Inv X pins σ H2 s → ∀ us, Vals vs us → wpAny (model X.prog X.w) X.A (call (.ref f) (Value.ref (ρ1 a) :: us)) (EP X pins σ Q) X.xe s) r1 (er.step r s1) (QR.imp (QR.bind q1) fun ys H2 ⟨ρ2, h2, vs, s2, r2, t2, _, q2⟩ => ?_) pos pins s I) fun us s2 ⟨vs, H2, I2, hu, k2⟩ => ⟨I2.kIn, k2 s2 I2 us hu⟩) (starEach_plain hs.1 es X.env) (noStar hs.2 pos X.env)
        intro s I us hu
        by_cases hn : (Val.ref a :: (vs ++ i.dv)).length = i.np
        · rw [if_pos hn] at q2
          refine run_call (args := Val.ref a :: vs) (vs := L2.V.ref (ρ1 a) :: ys) G D hk V I r2 ?_ (.cons rfl hu) hn q2
          rw [VRs]
          exact ⟨_, _, rfl, t1.step r1 s2, t2⟩
        · rw [if_neg hn] at q2; exact q2.elim
theorem so_meth0 {tab : Nat → Option MI} {m : Str} (T : ∀ c i, tab c = some i → MOk g lv c m i) {fo : Fe} {o : Expr} {apos pos : Pos} (hb : noSuper o = true) (hl : (apos.endLine == pos.line) = true)
    (ho : SoE g lv N sc fo o) : SoE g lv N sc (eMeth tab m fo fun _ h => .ok [] h) (.Call (.Attribute o m apos) [] [] pos) := by
  intro X W G ρ h H env σ Q r er q pins s I
  refine PySem.W.methodCall_KW (thn (ho X W G ρ h H env σ (fun x H1 => ∀ (s : Shared) (u : Value), Inv X pins σ H1 s → RelV x u → wpAny (model X.prog X.w) X.A (getMethod u m (do return (← importBound o X.env).getD true)) (fun fx s₂ => wpAny (model X.prog X.w) X.A (callWith pos fx.1 fx.2 (backTo pos (starEach [] X.env)) (backToKw pos (keywordEach [] X.env))) (EP X pins σ Q) X.xe s₂) X.xe s) r er (QR.imp (QR.bind q) fun x H1 ⟨ρ1, h1, v, s1, r1, t1, _, q1⟩ => ?_) pins s I) fun u s1 ⟨x, H1, I1, rx, k1⟩ => k1 s1 u I1 rx) (meth_eval (args := []) hb rfl (by decide) hl)
  intro s u I rx
  cases z : insOf v h1 with
  | none => rw [z] at q1; exact q1.elim
  | some cf =>
    obtain ⟨c, fl⟩ := cf
    rw [z] at q1
    dsimp only at q1
    obtain ⟨a, rfl, za⟩ := insOf_ok z
    cases zt : tab c with
    | none => rw [zt] at q1; exact q1.elim
    | some i =>
      cases zl : fl.lookup m with
      | some v' => rw [zt, zl] at q1; exact q1.elim
      | none =>
        rw [zt, zl] at q1
        obtain ⟨k, f, fd, ps, hk, cl, mt, D, V⟩ := (T c i zt).ex
        obtain ⟨ha1, rfl⟩ := t1.of_ref
        obtain ⟨dx, xs, e1, e2⟩ := r1.ins za
        cases (show u = Value.ref (ρ1 a) from rx)
        refine getmeth_ok I e1 (by rw [G.hK]; exact cl) (by rw [G.hK]; exact mt) (e2.lookup_none zl) ?_
        refine PySem.W.callWith_K0 (first := [.ref (ρ1 a)]) I.kIn (by rw [G.hK]; exact mt.kp) ?_
        have q2 : QR g (VR g) W ρ1 h1 H1 σ (if (Val.ref a :: ([] ++ i.dv)).length = i.np then i.cf (Val.ref a :: ([] ++ i.dv)) h1 else .bad) Q := q1
        by_cases hn : (Val.ref a :: ([] ++ i.dv)).length = i.np
        · rw [if_pos hn] at q2
          refine run_call (args := [Val.ref a]) (vs := [L2.V.ref (ρ1 a)]) (us := [Value.ref (ρ1 a)]) G D hk V I r1 ?_ (.cons rfl .nil) hn q2
          rw [VRs]
          exact ⟨_, _, rfl, t1, by rw [VRs]⟩
        · rw [if_neg hn] at q2; exact q2.elim
end
end MP
end
section
set_option autoImplicit false
set_option linter.all false
namespace MP
open PySem L2
inductive SR where
  | nx (env : Env) (h : Heap)
  | rt (v : Val) (h : Heap)
  | bk (env : Env) (h : Heap)
  | ct (env : Env) (h : Heap)
  | ex (env : Env) (c : Nat) (fs : List (Str × Val)) (h : Heap)
  | bad
def liftS {α : Type} (r : Rs α) (env : Env) (k : α → Heap → SR) : SR := match r with
  | .ok a h => k a h
  | .ex c fs h => .ex env c fs h
  | .bad => .bad
def SR.andThen (r : SR) (k : Env → Heap → SR) : SR := match r with
  | .nx env h => k env h
  | r => r
section
variable {g : G} {lv : Nat} {N : List Str} {sc : Scope}
def QS (g : G) (W : WX) (ρ : Nat → Addr) (h : Heap) (H : Hp) (r : SR) (D : Ends) : Prop := match r with
  | .nx env' h' => ∀ ρ' H' σ', Stp ρ ρ' h h' H H' → Rel g ρ' h' H' → ER g ρ' h'.length H' env' σ' → D.nx σ' H'
  | .rt v h' => ∀ ρ' H' x, Stp ρ ρ' h h' H H' → Rel g ρ' h' H' → VR g ρ' h'.length H' v x → D.rt x H'
  | .bk env' h' => ∀ ρ' H' σ', Stp ρ ρ' h h' H H' → Rel g ρ' h' H' → ER g ρ' h'.length H' env' σ' → D.bk σ' H'
  | .ct env' h' => ∀ ρ' H' σ', Stp ρ ρ' h h' H H' → Rel g ρ' h' H' → ER g ρ' h'.length H' env' σ' → D.ct σ' H'
  | .ex env' c fs h' => ∀ ρ' H' σ' d xs, Stp ρ ρ' h h' H H' → Rel g ρ' h' H' → ER g ρ' h'.length H' env' σ' → H' d = some (.xd xs) → KR g ρ' h'.length H' fs xs → W (.ref (g.C c)) (some d) σ' H'
  | .bad => False
theorem QS.step {W : WX} {ρ ρ1 : Nat → Addr} {h h1 : Heap} {H H1 : Hp} {r : SR} {D : Ends} (s : Stp ρ ρ1 h h1 H H1) (q : QS g W ρ h H r D) : QS g W ρ1 h1 H1 r D := by
  cases r with
  | nx e h' => exact fun ρ' H' σ' s' => q ρ' H' σ' (s.trans s')
  | rt e h' => exact fun ρ' H' σ' s' => q ρ' H' σ' (s.trans s')
  | bk e h' => exact fun ρ' H' σ' s' => q ρ' H' σ' (s.trans s')
  | ct e h' => exact fun ρ' H' σ' s' => q ρ' H' σ' (s.trans s')
  | ex e c fs h' => exact fun ρ' H' σ' d xs s' => q ρ' H' σ' d xs (s.trans s')
  | bad => exact q
theorem QS.lift {α β : Type} {T : (Nat → Addr) → Nat → Hp → α → β → Prop} {W : WX} {ρ : Nat → Addr} {h : Heap} {H : Hp} {σ : L2.St} {env : Env} {r : Rs α} {k : α → Heap → SR} {D : Ends} (rl : Rel g ρ h H) (er : ER g ρ h.length H env σ) (q : QS g W ρ h H (liftS r env k) D) :
    QR g T W ρ h H σ r fun b H1 => ∃ ρ1 h1 a, Stp ρ ρ1 h h1 H H1 ∧ Rel g ρ1 h1 H1 ∧ T ρ1 h1.length H1 a b ∧ r = .ok a h1 ∧ QS g W ρ1 h1 H1 (k a h1) D := by
  cases r with
  | ok a h' => exact fun ρ' H' b s r t => ⟨ρ', h', a, s, r, t, rfl, QS.step s q⟩
  | ex c fs h' => exact fun ρ' H' d xs s r => q ρ' H' σ d xs s r (er.step rl s)
  | bad => exact q
abbrev Fs := Env → Heap → SR
def SoS (g : G) (lv : Nat) (N : List Str) (sc : Scope) (f : Fs) (st : Stmt) : Prop :=
  ∀ (X : Cx) (W : WX), Good g X N sc W lv → ∀ (ρ : Nat → Addr) (h : Heap) (H : Hp) (env : Env) (σ : L2.St) (D : Ends), Rel g ρ h H → ER g ρ h.length H env σ → QS g W ρ h H (f env h) D → SSt X st D σ H
def SoSs (g : G) (lv : Nat) (N : List Str) (sc : Scope) (f : Fs) (st : List Stmt) : Prop :=
  ∀ (X : Cx) (W : WX), Good g X N sc W lv → ∀ (ρ : Nat → Addr) (h : Heap) (H : Hp) (env : Env) (σ : L2.St) (D : Ends), Rel g ρ h H → ER g ρ h.length H env σ → QS g W ρ h H (f env h) D → SSs X st D σ H
theorem ss_nil : SoSs g lv N sc (fun env h => .nx env h) [] := by
  intro X W G ρ h H env σ D r er q
  exact pss_nil.se (q ρ H σ (Stp.refl ..) r er)
theorem ss_cons {f1 f2 : Fs} {st : Stmt} {rest : List Stmt} (h1 : SoS g lv N sc f1 st) (h2 : SoSs g lv N sc f2 rest) : SoSs g lv N sc (fun env h => (f1 env h).andThen f2) (st :: rest) := by
  intro X W G ρ h H env σ D r er q
  refine (pss_cons (self_s X st) (self_ss X rest)).se ?_
  refine h1 X W G ρ h H env σ _ r er ?_
  have q' : QS g W ρ h H ((f1 env h).andThen f2) D := q
  cases z : f1 env h with
  | nx env' h' =>
    rw [z] at q'
    intro ρ' H' σ' s' r' er'
    exact h2 X W G ρ' h' H' env' σ' D r' er' (QS.step s' q')
  | rt v h' => rw [z] at q'; exact q'
  | bk v h' => rw [z] at q'; exact q'
  | ct v h' => rw [z] at q'; exact q'
  | ex e c fs h' => rw [z] at q'; exact q'
  | bad => rw [z] at q'; exact q'
theorem s_pass {pos : Pos} : SoS g lv N sc (fun env h => .nx env h) (.Pass pos) := by
  intro X W G ρ h H env σ D r er q
  exact ps_pass.se (q ρ H σ (Stp.refl ..) r er)
theorem s_break {pos : Pos} : SoS g lv N sc (fun env h => .bk env h) (.Break pos) := by
  intro X W G ρ h H env σ D r er q
  exact ps_break.se (q ρ H σ (Stp.refl ..) r er)
theorem s_continue {pos : Pos} : SoS g lv N sc (fun env h => .ct env h) (.Continue pos) := by
  intro X W G ρ h H env σ D r er q
  exact ps_continue.se (q ρ H σ (Stp.refl ..) r er)
def isComp : Expr → Bool
  | .ListComp .. | .SetComp .. | .DictComp .. => true
  | _ => false
theorem swaps_no {e : Expr} (h : isComp e = false) (t : Option Expr) (n : Nat) (env : PySem.Env) : swapsWith e t n env = pure false := by
  cases e <;> first | rfl | cases h
theorem s_expr {f : Fe} {e : Expr} {pos : Pos} (hc : isComp e = false) (he : SoE g lv N sc f e) : SoS g lv N sc (fun env h => liftS (f env h) env fun _ h1 => .nx env h1) (.Expr e pos) := by
  intro X W G ρ h H env σ D r er q
  refine (ps_expr (self_e X e) (swaps_no hc none _ _)).se ?_
  refine he X W G ρ h H env σ _ r er (QR.imp (QS.lift r er q) fun x H1 ⟨ρ1, h1, v, s1, r1, t1, _, q1⟩ => ?_)
  exact q1 ρ1 H1 σ (Stp.refl ..) r1 (er.step r s1)
theorem s_ret {f : Fe} {e : Expr} {pos : Pos} (he : SoE g lv N sc f e) : SoS g lv N sc (fun env h => liftS (f env h) env fun v h1 => .rt v h1) (.Return (some e) pos) := by
  intro X W G ρ h H env σ D r er q
  refine (ps_ret (self_e X e)).se ?_
  refine he X W G ρ h H env σ _ r er (QR.imp (QS.lift r er q) fun x H1 ⟨ρ1, h1, v, s1, r1, t1, _, q1⟩ => ?_)
  exact q1 ρ1 H1 x (Stp.refl ..) r1 t1
theorem s_retN {pos : Pos} : SoS g lv N sc (fun env h => .rt .non h) (.Return none pos) := by
  intro X W G ρ h H env σ D r er q
  exact ps_retN.se (q ρ H .non (Stp.refl ..) r VR.non)
theorem s_if {fc : Env → Heap → Rs Bool} {fa fb : Fs} {c : Expr} {a b : List Stmt} {pos : Pos} (hc : SoT g lv N sc fc c) (ha : SoSs g lv N sc fa a) (hb : SoSs g lv N sc fb b) : SoS g lv N sc (fun env h => liftS (fc env h) env fun k h1 => if k then fa env h1 else fb env h1) (.If c a b pos) := by
  intro X W G ρ h H env σ D r er q
  refine (ps_if (self_t X c) (self_ss X a) (self_ss X b)).se ?_
  refine hc X W G ρ h H env σ _ r er (QR.imp (QS.lift r er q) fun k H1 ⟨ρ1, h1, v, s1, r1, t1, _, q1⟩ => ?_)
  cases t1
  cases k with
  | true => exact ha X W G ρ1 h1 H1 env σ D r1 (er.step r s1) q1
  | false => exact hb X W G ρ1 h1 H1 env σ D r1 (er.step r s1) q1
def QG (g : G) (W : WX) (ρ : Nat → Addr) (h : Heap) (H : Hp) (σ : L2.St) (sl : List Nat) (r : Rs Env) (Q : L2.St → Hp → Prop) : Prop := match r with
  | .ok env' h' => ∀ ρ' H' σ', Stp ρ ρ' h h' H H' → Rel g ρ' h' H' → ER g ρ' h'.length H' env' σ' → (σ'.length = σ.length ∧ ∀ i, i ∉ sl → σ'[i]? = σ[i]?) → Q σ' H'
  | _ => False
abbrev Fg := Val → Env → Heap → Rs Env
def SoG (g : G) (lv : Nat) (N : List Str) (sc : Scope) (sl : List Nat) (f : Fg) (t : Expr) : Prop :=
  ∀ (X : Cx) (W : WX), Good g X N sc W lv → ∀ (ρ : Nat → Addr) (h : Heap) (H : Hp) (env : Env) (σ : L2.St) (v : Val) (x : L2.V) (Q : L2.St → Hp → Prop), Rel g ρ h H → ER g ρ h.length H env σ → VR g ρ h.length H v x → QG g W ρ h H σ sl (f v env h) Q → SG X t x σ H Q
abbrev Fgs := List Val → Env → Heap → Rs Env
abbrev SGs (X : Cx) (ts : List Expr) : TGs := fun vs σ H Q => ∀ (pins : List (Addr × Obj)) (s : Shared) (us : List Value), Inv X pins σ H s → Vals vs us → wpAny (model X.prog X.w) X.A (assignInOrder ((assignEach ts X.env).map (·.2)) us) (fun _ s' => ∃ σ' H', Inv X pins σ' H' s' ∧ Q σ' H') X.xe s
theorem self_gs (X : Cx) (ts : List Expr) : PGs X ts (SGs X ts) := ⟨fun pins s σ H vs us Q I r h => h pins s us I r⟩
theorem _root_.L2.PGs.se {X : Cx} {ts : List Expr} {t : TGs} (h : PGs X ts t) {vs : List L2.V} {σ : L2.St} {H : Hp} {Q : L2.St → Hp → Prop} (q : t vs σ H Q) : SGs X ts vs σ H Q := fun pins s us I r => h.run pins s σ H vs us Q I r q
def SoGs (g : G) (lv : Nat) (N : List Str) (sc : Scope) (sl : List Nat) (f : Fgs) (ts : List Expr) : Prop :=
  ∀ (X : Cx) (W : WX), Good g X N sc W lv → ∀ (ρ : Nat → Addr) (h : Heap) (H : Hp) (env : Env) (σ : L2.St) (vs : List Val) (xs : List L2.V) (Q : L2.St → Hp → Prop), Rel g ρ h H → ER g ρ h.length H env σ → VRs g ρ h.length H vs xs → QG g W ρ h H σ sl (f vs env h) Q → SGs X ts xs σ H Q
theorem ER.set {ρ : Nat → Addr} {n : Nat} {H : Hp} {env : Env} {σ : L2.St} {i : Nat} {v : Val} {x : L2.V} (e : ER g ρ n H env σ) (t : VR g ρ n H v x) : ER g ρ n H (env.set i (some v)) (σ.set i (some x)) := by
  refine ⟨by rw [List.length_set, List.length_set]; exact e.len, fun j w ew => ?_⟩
  rcases set_get ew with ⟨rfl, z⟩ | ⟨hj, z⟩
  · cases z
    have hl := lt_of_get ew
    rw [List.length_set, e.len] at hl
    exact ⟨x, List.getElem?_set_self hl, t⟩
  · obtain ⟨y, a, b⟩ := e.val j w z
    exact ⟨y, by rw [List.getElem?_set_ne (Ne.symm hj)]; exact a, b⟩
theorem g_name {i : Nat} {x : Str} {pos : Pos} (hi : N[i]? = some x) (hx : L2.Loc sc x) : SoG g lv N sc [i] (fun v env h => .ok (env.set i (some v)) h) (.Name x pos) := by
  intro X W G ρ h H env σ v y Q r er t q
  have hf : X.fn x = true ∨ X.env.scope.names.lookup x = some .local := by
    rcases hx with a | a
    · exact .inr (G.hsc.same (by decide) a)
    · exact .inl (G.cell x a)
  refine (pg_name (i := i) G.nd (by rw [G.hN]; exact hi) (G.hsc.loc hx) hf).se ?_
  refine q ρ H _ (Stp.refl ..) r (er.set t) ⟨List.length_set, fun j hj => ?_⟩
  rw [List.getElem?_set_ne (by simpa using Ne.symm (by simpa using hj : j ≠ i))]
theorem gs_nil : SoGs g lv N sc [] (fun vs env h => match vs with
    | [] => .ok env h
    | _ => .bad) [] := by
  intro X W G ρ h H env σ vs xs Q r er t q
  cases vs with
  | nil =>
    rw [VRs] at t
    subst t
    exact pgs_nil.se ⟨rfl, q ρ H σ (Stp.refl ..) r er ⟨rfl, fun _ _ => rfl⟩⟩
  | cons v vs => exact q.elim
theorem assignEach_cons {e : Expr} (h : isSt e = false) (es : List Expr) (env : PySem.Env) : assignEach (e :: es) env = (false, assign e env) :: assignEach es env := by
  cases e <;> first | rfl | cases h
theorem gs_cons {sl sl' : List Nat} {f : Fg} {fs : Fgs} {e : Expr} {es : List Expr} (hs : isSt e = false) (h1 : SoG g lv N sc sl f e) (h2 : SoGs g lv N sc sl' fs es) : SoGs g lv N sc (sl ++ sl') (fun vs env h => match vs with
    | v :: r => (f v env h).bind fun env1 h1 => fs r env1 h1
    | [] => .bad) (e :: es) := by
  intro X W G ρ h H env σ vs xs Q r er t q
  cases vs with
  | nil => exact q.elim
  | cons v vs =>
    rw [VRs] at t
    obtain ⟨x, xr, rfl, t1, t2⟩ := t
    refine (pgs_cons (self_g X e) (self_gs X es) (by rw [assignEach_cons hs]; rfl)).se ⟨x, xr, rfl, ?_⟩
    refine h1 X W G ρ h H env σ v x _ r er t1 ?_
    have q' : QG g W ρ h H σ (sl ++ sl') ((f v env h).bind fun env1 h1 => fs vs env1 h1) Q := q
    cases z : f v env h with
    | ok env1 h1' =>
      rw [z] at q'
      intro ρ1 H1 σ1 s1 r1 er1 k1
      refine h2 X W G ρ1 h1' H1 env1 σ1 vs xr Q r1 er1 (t2.step r s1) ?_
      have q'' : QG g W ρ h H σ (sl ++ sl') (fs vs env1 h1') Q := q'
      cases z2 : fs vs env1 h1' with
      | ok env2 h2' =>
        rw [z2] at q''
        intro ρ2 H2 σ2 s2 r2 er2 k2
        exact q'' ρ2 H2 σ2 (s1.trans s2) r2 er2 ⟨k2.1.trans k1.1, fun i hi => by
          rw [List.mem_append, not_or] at hi
          rw [k2.2 i hi.2, k1.2 i hi.1]⟩
      | ex c fs h' => rw [z2] at q''; exact q''.elim
      | bad => rw [z2] at q''; exact q''.elim
    | ex c fs h' => rw [z] at q'; exact q'.elim
    | bad => rw [z] at q'; exact q'.elim
theorem assignEach_length : ∀ (es : List Expr) (env : PySem.Env), (assignEach es env).length = es.length
  | [], _ => rfl
  | e :: es, env => by
    have ih := assignEach_length es env
    cases e <;> (show (_ :: assignEach es env).length = _; rw [List.length_cons, List.length_cons, ih])
theorem assignEach_nostar : ∀ {es : List Expr} (h : es.all (fun e => !isSt e) = true) (env : PySem.Env), (assignEach es env).findIdx? (·.1) = none
  | [], _, _ => rfl
  | e :: es, h, env => by
    simp only [List.all_cons, Bool.and_eq_true, Bool.not_eq_true'] at h
    rw [assignEach_cons h.1, List.findIdx?_cons, assignEach_nostar h.2 env]
    rfl
theorem g_tup {sl : List Nat} {fs : Fgs} {es : List Expr} {k : Nat} {pos : Pos} (hs : es.all (fun e => !isSt e) = true) (ha : SoGs g lv N sc sl fs es) : SoG g lv N sc sl (fun v env h => match v with
    | .tup vs => if vs.length = es.length then fs vs env h else .bad
    | _ => .bad) (.Tuple es k pos) := by
  intro X W G ρ h H env σ v x Q r er t q
  cases v with
  | tup vs =>
    by_cases hl : vs.length = es.length
    · simp only [if_pos hl] at q
      obtain ⟨a, xs, rfl, t1, t2⟩ := t.of_tup
      refine (pg_tup G.calm (self_gs X es) (assignEach_length es X.env) (assignEach_nostar hs X.env)).se ⟨a, xs, rfl, by rw [G.hK]; exact t1, by rw [← t2.length]; exact hl, ?_⟩
      exact ha X W G ρ h H env σ vs xs Q r er t2 q
    · simp only [if_neg hl] at q; exact q.elim
  | _ => exact q.elim
/-- a tuple or a list, taken apart -/
def gTq (n : Nat) (fs : Fgs) : Fg := fun v env h => match v with
  | .tup vs => if vs.length = n then fs vs env h else .bad
  | .ref a => (match rd h a with
    | some (.lst vs) => if vs.length = n then fs vs env h else .bad
    | _ => .bad)
  | _ => .bad
theorem g_tupq {sl : List Nat} {fs : Fgs} {es : List Expr} {k : Nat} {pos : Pos} (hs : es.all (fun e => !isSt e) = true) (ha : SoGs g lv N sc sl fs es) : SoG g lv N sc sl (gTq es.length fs) (.Tuple es k pos) := by
  intro X W G ρ h H env σ v x Q r er t q
  cases v with
  | tup vs => exact g_tup hs ha X W G ρ h H env σ _ x Q r er t q
  | ref a =>
    unfold gTq at q
    dsimp only at q
    cases e : rd h a with
    | none => rw [e] at q; exact q.elim
    | some b =>
      rw [e] at q
      cases b with
      | lst vs =>
        dsimp only at q
        by_cases hl : vs.length = es.length
        · rw [if_pos hl] at q
          obtain ⟨_, rfl⟩ := t.of_ref
          obtain ⟨xs, e1, e2, _⟩ := r.lst e
          refine (pg_lst G.calm (self_gs X es) (assignEach_length es X.env) (assignEach_nostar hs X.env)).se ⟨_, xs, rfl, by rw [G.hK]; exact e1, by rw [← e2.length]; exact hl, ?_⟩
          exact ha X W G ρ h H env σ vs xs Q r er e2 q
        · rw [if_neg hl] at q; exact q.elim
      | _ => exact q.elim
  | _ => exact q.elim
theorem each_one {t : Expr} (h : isSt t = false) (env : PySem.Env) : (assignEach [t] env).map (·.2) = [assign t env] := by
  rw [assignEach_cons h]; rfl
def sAsg (f : Fe) (ft : Fg) : Fs := fun env h => liftS (f env h) env fun v h1 => liftS (ft v env h1) env fun env2 h2 => .nx env2 h2
theorem QS.asg {W : WX} {ρ : Nat → Addr} {h : Heap} {H : Hp} {σ : L2.St} {sl : List Nat} {env : Env} {r : Rs Env} {D : Ends} (q : QS g W ρ h H (liftS r env fun env2 h2 => .nx env2 h2) D) (hx : ∀ c fs h', r ≠ .ex c fs h') : QG g W ρ h H σ sl r D.nx := by
  cases r with
  | ok env' h' => exact fun ρ' H' σ' s r e _ => q ρ' H' σ' s r e
  | ex c fs h' => exact absurd rfl (hx c fs h')
  | bad => exact q
/-- x = e, (x, y) = e: e is no display of a tuple, no comprehension that is stored at once -/
theorem s_asg {f : Fe} {ft : Fg} {sl : List Nat} {t e : Expr} {pos : Pos} (h1 : swapsWithSole [t] e pos.line = fun _ => pure false) (h2 : swappedStores [t] e = fun _ => pure none) (h3 : isSt t = false) (hx : ∀ v env h c fs h', ft v env h ≠ .ex c fs h')
    (he : SoE g lv N sc f e) (ht : SoG g lv N sc sl ft t) : SoS g lv N sc (sAsg f ft) (.Assign [t] e pos) := by
  intro X W G ρ h H env σ D r er q
  refine (ps_asg (self_e X e) (self_g X t) (by rw [h1]) (by rw [h2]) (each_one h3 X.env)).se ?_
  refine he X W G ρ h H env σ _ r er (QR.imp (QS.lift r er q) fun x H1 ⟨ρ1, h1, v, s1, r1, t1, _, q1⟩ => ?_)
  exact ht X W G ρ1 h1 H1 env σ v x D.nx r1 (er.step r s1) t1 (QS.asg q1 (hx v env h1))
/-- x, y = a, b (two locals, the values not all constants) -/
theorem s_par {fs : Env → Heap → Rs (List Val)} {i j : Nat} {x y : Str} {a b : Expr} {px py pt pt2 pos : Pos} {kt k2 : Nat} (hx : N[i]? = some x) (hy : N[j]? = some y) (hij : i ≠ j) (lx : sc.names.lookup x = some .local) (ly : sc.names.lookup y = some .local)
    (hsw : ∀ env : PySem.Env, ScR env.scope sc → env.scope.kind = .function → swappedStores [.Tuple [.Name x px, .Name y py] kt pt] (.Tuple [a, b] k2 pt2) env = pure (some [x, y])) (ha : SoA g lv N sc fs [a, b]) :
    SoS g lv N sc (fun env h => liftS (fs env h) env fun vs h1 => match vs with
      | [v, w] => .nx ((env.set i (some v)).set j (some w)) h1
      | _ => .bad) (.Assign [.Tuple [.Name x px, .Name y py] kt pt] (.Tuple [a, b] k2 pt2) pos) := by
  intro X W G ρ h H env σ D r er q pins s I
  refine (ps_par (i := i) (j := j) G.calm G.nd (by rw [G.hN]; exact hx) (by rw [G.hN]; exact hy) hij (G.hsc.same (by decide) lx) (G.hsc.same (by decide) ly) (self_a X _) (hsw X.env G.hsc I.ok.kind)).se ?_ pins s I
  refine ha X W G ρ h H env σ _ r er (QR.imp (QS.lift r er q) fun xs H1 ⟨ρ1, h1, vs, s1, r1, t1, _, q1⟩ => ?_)
  match vs, q1, t1 with
  | [], q1, _ => exact q1.elim
  | [_], q1, _ => exact q1.elim
  | _ :: _ :: _ :: _, q1, _ => exact q1.elim
  | [v, w], q1, t1 =>
    rw [VRs] at t1
    obtain ⟨u, ur, rfl, a1, t1⟩ := t1
    rw [VRs] at t1
    obtain ⟨z, zr, rfl, a2, t1⟩ := t1
    rw [VRs] at t1
    subst t1
    exact ⟨u, z, rfl, q1 ρ1 H1 _ (Stp.refl ..) r1 (((er.step r s1).set a1).set a2)⟩
theorem s_par3 {fs : Env → Heap → Rs (List Val)} {i j l : Nat} {x y z : Str} {a b c : Expr} {px py pz pt pt2 pos : Pos} {kt k2 : Nat} (hx : N[i]? = some x) (hy : N[j]? = some y) (hz : N[l]? = some z) (hij : i ≠ j) (hil : i ≠ l) (hjl : j ≠ l) (lx : sc.names.lookup x = some .local) (ly : sc.names.lookup y = some .local) (lz : sc.names.lookup z = some .local)
    (hsw : ∀ env : PySem.Env, ScR env.scope sc → env.scope.kind = .function → swappedStores [.Tuple [.Name x px, .Name y py, .Name z pz] kt pt] (.Tuple [a, b, c] k2 pt2) env = pure (some [x, y, z])) (ha : SoA g lv N sc fs [a, b, c]) :
    SoS g lv N sc (fun env h => liftS (fs env h) env fun vs h1 => match vs with
      | [v, w, u] => .nx (((env.set i (some v)).set j (some w)).set l (some u)) h1
      | _ => .bad) (.Assign [.Tuple [.Name x px, .Name y py, .Name z pz] kt pt] (.Tuple [a, b, c] k2 pt2) pos) := by
  intro X W G ρ h H env σ D r er q pins s I
  refine (ps_par3 (i := i) (j := j) (l := l) G.calm G.nd (by rw [G.hN]; exact hx) (by rw [G.hN]; exact hy) (by rw [G.hN]; exact hz) hij hil hjl (G.hsc.same (by decide) lx) (G.hsc.same (by decide) ly) (G.hsc.same (by decide) lz) (self_a X _) (hsw X.env G.hsc I.ok.kind)).se ?_ pins s I
  refine ha X W G ρ h H env σ _ r er (QR.imp (QS.lift r er q) fun xs H1 ⟨ρ1, h1, vs, s1, r1, t1, _, q1⟩ => ?_)
  match vs, q1, t1 with
  | [], q1, _ => exact q1.elim
  | [_], q1, _ => exact q1.elim
  | [_, _], q1, _ => exact q1.elim
  | _ :: _ :: _ :: _ :: _, q1, _ => exact q1.elim
  | [v, w, k], q1, t1 =>
    rw [VRs] at t1
    obtain ⟨u, ur, rfl, a1, t1⟩ := t1
    rw [VRs] at t1
    obtain ⟨z, zr, rfl, a2, t1⟩ := t1
    rw [VRs] at t1
    obtain ⟨z3, zr3, rfl, a3, t1⟩ := t1
    rw [VRs] at t1
    subst t1
    exact ⟨u, z, z3, rfl, q1 ρ1 H1 _ (Stp.refl ..) r1 ((((er.step r s1).set a1).set a2).set a3)⟩
theorem KR.putF {ρ : Nat → Addr} {n : Nat} {H : Hp} {f : Str} {v : Val} {x : L2.V} (t : VR g ρ n H v x) : ∀ {fs : List (Str × Val)} {xs : List (Str × L2.V)}, KR g ρ n H fs xs → KR g ρ n H (setF f v fs) (putF f x xs)
  | [], xs, e => by
    rw [KR] at e; subst e
    show KR g ρ n H [(f, v)] [(f, x)]
    rw [KR]
    exact ⟨x, [], rfl, t, by rw [KR]⟩
  | (k, u) :: fs, xs, e => by
    rw [KR] at e
    obtain ⟨y, r, rfl, e1, e2⟩ := e
    show KR g ρ n H (if k = f then (k, v) :: fs else (k, u) :: setF f v fs) (if k = f then (k, x) :: r else (k, y) :: L2.putF f x r)
    by_cases hk : k = f
    · rw [if_pos hk, if_pos hk, KR]
      exact ⟨x, r, rfl, t, e2⟩
    · rw [if_neg hk, if_neg hk, KR]
      exact ⟨y, _, rfl, e1, KR.putF t e2⟩
def sFldF (okc : Nat → Bool) (f : Str) (fo fv : Fe) : Fs := fun env h => liftS (fv env h) env fun v h1 => liftS (fo env h1) env fun o h2 => match o with
  | .ref a => (match h2[a]? with
    | some (false, .ins c fs) => if okc c && decide (fs.length < 100) then .nx env (h2.set a (false, .ins c (setF f v fs))) else .bad
    | _ => .bad)
  | _ => .bad
theorem s_fld {okc : Nat → Bool} {f : Str} (T : ∀ c, okc c = true → L2.Cls g.K (g.C c) ∧ NoAttr g.K (g.C c) f) {fo fv : Fe} {o e : Expr} {pos pos' : Pos} (hc : isComp e = false ∨ True) (ho : SoE g lv N sc fo o) (he : SoE g lv N sc fv e) :
    SoS g lv N sc (sFldF okc f fo fv) (.Assign [.Attribute o f pos'] e pos) := by
  intro X W G ρ h H env σ D r er q
  have hsw : swapsWith e (some (.Attribute o f pos')) pos.line X.env = pure false := by cases e <;> rfl
  refine (ps_fld (self_e X o) (self_e X e) hsw).se ?_
  refine he X W G ρ h H env σ _ r er (QR.imp (QS.lift r er q) fun y H1 ⟨ρ1, h1, v, s1, r1, t1, _, q1⟩ => ?_)
  have er1 := er.step r s1
  refine ho X W G ρ1 h1 H1 env σ _ r1 er1 (QR.imp (QS.lift r1 er1 q1) fun x H2 ⟨ρ2, h2, ov, s2, r2, t2, _, q2⟩ => ?_)
  cases ov with
  | ref a =>
    dsimp only at q2
    obtain ⟨ha, rfl⟩ := t2.of_ref
    cases z : h2[a]? with
    | none => rw [z] at q2; exact q2.elim
    | some cl =>
      obtain ⟨b, cl⟩ := cl
      rw [z] at q2
      cases cl with
      | ins c fs =>
        cases b with
        | true => exact q2.elim
        | false =>
          dsimp only at q2
          cases zk : (okc c && decide (fs.length < 100)) with
          | false => rw [zk] at q2; exact q2.elim
          | true =>
            rw [zk, if_pos rfl] at q2
            rw [Bool.and_eq_true, decide_eq_true_eq] at zk
            obtain ⟨dx, xs, e1, e2⟩ := r2.obj a false _ z
            refine ⟨_, _, dx, xs, rfl, e1, by rw [G.hK]; exact (T c zk.1).1, by rw [G.hK]; exact (T c zk.1).2, by rw [← e2.length]; omega, ?_⟩
            have st : Stp ρ2 ρ2 h2 (h2.set a (false, .ins c (setF f v fs))) H2 (upd H2 (ρ2 a) (.ins (g.C c) dx (L2.putF f y xs))) := Stp.write r2 z
            have tv := (t1.step r1 s2).step r2 st
            have e2' := e2.step r2 st
            rw [List.length_set] at tv e2'
            refine q2 ρ2 _ σ st (r2.write z ⟨dx, _, upd_same, KR.putF tv e2'⟩) ?_
            exact (er1.step r1 s2).step r2 st
      | lst _ => cases b <;> exact q2.elim
      | dct _ => cases b <;> exact q2.elim
  | _ => exact q2.elim
end
end MP
end
section
set_option autoImplicit false
set_option linter.all false
namespace MP
open PySem L2
section
variable {g : G} {lv : Nat} {N : List Str} {sc : Scope}
theorem VRs.set {ρ : Nat → Addr} {n : Nat} {H : Hp} {v : Val} {x : L2.V} (t : VR g ρ n H v x) : ∀ {vs : List Val} {xs : List L2.V} (j : Nat), VRs g ρ n H vs xs → VRs g ρ n H (vs.set j v) (xs.set j x)
  | [], xs, j, e => by rw [VRs] at e; subst e; show VRs g ρ n H [] []; rw [VRs]
  | u :: vs, xs, 0, e => by
    rw [VRs] at e
    obtain ⟨y, r, rfl, e1, e2⟩ := e
    show VRs g ρ n H (v :: vs) (x :: r)
    rw [VRs]
    exact ⟨x, r, rfl, t, e2⟩
  | u :: vs, xs, j + 1, e => by
    rw [VRs] at e
    obtain ⟨y, r, rfl, e1, e2⟩ := e
    show VRs g ρ n H (u :: vs.set j v) (y :: r.set j x)
    rw [VRs]
    exact ⟨y, _, rfl, e1, VRs.set t j e2⟩
theorem KR.any {ρ : Nat → Addr} {n : Nat} {H : Hp} {k : Key} : ∀ {vs : List (Key × Val)} {xs : List (Key × L2.V)}, KR g ρ n H vs xs → (xs.any fun kv => decide (kv.1 = k)) = (vs.any fun kv => decide (kv.1 = k))
  | [], xs, e => by rw [KR] at e; subst e; rfl
  | (k', u) :: vs, xs, e => by
    rw [KR] at e
    obtain ⟨y, r, rfl, e1, e2⟩ := e
    rw [List.any_cons, List.any_cons, KR.any e2]
theorem KR.map {ρ : Nat → Addr} {n : Nat} {H : Hp} {k : Key} {v : Val} {x : L2.V} (t : VR g ρ n H v x) : ∀ {vs : List (Key × Val)} {xs : List (Key × L2.V)}, KR g ρ n H vs xs → KR g ρ n H (vs.map fun kv => if kv.1 = k then (kv.1, v) else kv) (xs.map fun kv => if kv.1 = k then (kv.1, x) else kv)
  | [], xs, e => by rw [KR] at e; subst e; show KR g ρ n H [] []; rw [KR]
  | (k', u) :: vs, xs, e => by
    rw [KR] at e
    obtain ⟨y, r, rfl, e1, e2⟩ := e
    rw [List.map_cons, List.map_cons]
    by_cases hk : k' = k
    · rw [if_pos hk, if_pos hk, KR]
      exact ⟨x, _, rfl, t, KR.map t e2⟩
    · rw [if_neg hk, if_neg hk, KR]
      exact ⟨y, _, rfl, e1, KR.map t e2⟩
theorem KR.append {κ : Type} {ρ : Nat → Addr} {n : Nat} {H : Hp} {k : κ} {v : Val} {x : L2.V} (t : VR g ρ n H v x) : ∀ {vs : List (κ × Val)} {xs : List (κ × L2.V)}, KR g ρ n H vs xs → KR g ρ n H (vs ++ [(k, v)]) (xs ++ [(k, x)])
  | [], xs, e => by rw [KR] at e; subst e; show KR g ρ n H [(k, v)] [(k, x)]; rw [KR]; exact ⟨x, [], rfl, t, by rw [KR]⟩
  | (k', u) :: vs, xs, e => by
    rw [KR] at e
    obtain ⟨y, r, rfl, e1, e2⟩ := e
    rw [List.cons_append, List.cons_append, KR]
    exact ⟨y, _, rfl, e1, KR.append t e2⟩
theorem KR.put {ρ : Nat → Addr} {n : Nat} {H : Hp} {k : Key} {v : Val} {x : L2.V} (t : VR g ρ n H v x) {vs : List (Key × Val)} {xs : List (Key × L2.V)} (e : KR g ρ n H vs xs) : KR g ρ n H (setK vs k v) (putK xs k x) := by
  unfold setK putK
  rw [e.any]
  split
  · exact e.map t
  · exact e.append t
theorem setK_length {α : Type} (kvs : List (Key × α)) (k : Key) (v : α) : (setK kvs k v).length ≤ kvs.length + 1 := by
  unfold setK
  split
  · rw [List.length_map]; omega
  · rw [List.length_append]; simp
theorem DLen.put {kvs : List (Key × Val)} {k : Key} {v : Val} (d : DLen kvs) (hl : kvs.length < lim) (hk : KOk k) : DLen (setK kvs k v) := by
  refine ⟨Nat.le_trans (setK_length kvs k v) (Nat.le_trans hl (by decide)), fun p hp => ?_⟩
  unfold setK at hp
  split at hp
  · obtain ⟨q, hq, e⟩ := List.mem_map.mp hp
    split at e <;> (rw [← e]; exact d.2 q hq)
  · rcases List.mem_append.mp hp with hp | hp
    · exact d.2 p hp
    · rw [List.mem_singleton.mp hp]; exact hk
theorem keyV_kok {ρ : Nat → Addr} {n : Nat} {H : Hp} {v : Val} {x : L2.V} {k : Key} (e : keyV v = some k) (t : VR g ρ n H v x) : KOk k := by
  cases v with
  | int i => cases e; exact True.intro
  | str s => cases e; exact t.of_str.2
  | _ => cases e
def putAt (o i v : Val) (h : Heap) : Option Heap := match o with
  | .ref a => (match h[a]? with
    | some (false, .lst xs) => (match i with
      | .int k => (match ixN xs.length k with
        | some j => some (h.set a (false, .lst (xs.set j v)))
        | none => none)
      | _ => none)
    | some (false, .dct kvs) => (match keyV i with
      | some k => if kvs.length < lim then some (h.set a (false, .dct (setK kvs k v))) else none
      | none => none)
    | _ => none)
  | _ => none
def sSubF (fo fi fv : Fe) : Fs := fun env h => liftS (fv env h) env fun v h1 => liftS (fo env h1) env fun o h2 => liftS (fi env h2) env fun i h3 => match putAt o i v h3 with
  | some h4 => .nx env h4
  | none => .bad
def isLstAt (v : Val) (h : Heap) : Bool := match v with
  | .ref a => (match h[a]? with
    | some (_, .lst _) => true
    | _ => false)
  | _ => false
def isSlice : Expr → Bool
  | .Slice .. => true
  | _ => false
theorem swapped_sub {o i e : Expr} {p : Pos} (env : PySem.Env) : swappedStores [.Subscript o i p] e env = pure none := by cases e <;> rfl
theorem s_sub {fo fi fv : Fe} {o i e : Expr} {pos pos' : Pos} (hi : isSlice i = false) (ho : SoE g lv N sc fo o) (hix : SoE g lv N sc fi i) (he : SoE g lv N sc fv e) :
    SoS g lv N sc (sSubF fo fi fv) (.Assign [.Subscript o i pos'] e pos) := by
  intro X W G ρ h H env σ D r er q
  have hsw : swapsWith e (some (.Subscript o i pos')) pos.line X.env = pure false := by cases e <;> rfl
  by_cases hL : ∃ v h1 ov h2 iv h3, fv env h = .ok v h1 ∧ fo env h1 = .ok ov h2 ∧ fi env h2 = .ok iv h3 ∧ isLstAt ov h3 = true
  · obtain ⟨v0, h10, ov0, h20, iv0, h30, E1, E2, E3, E4⟩ := hL
    have hpg : ∀ v : Value, assign (.Subscript o i pos') X.env v = (do
        let ov ← holding [v] (PySem.eval o X.env)
        let iv ← holding [v, ov] (PySem.eval i X.env)
        standAt pos'
        holding [v, ov, iv] (setItem ov iv v)
        release [v, ov, iv] []) := fun v => by cases i <;> first | rfl | cases hi
    refine (ps_asg (self_e X e) (pg_sub (self_e X o) (self_e X i) set_list hpg) (show swapsWithSole [.Subscript o i pos'] e pos.line X.env = pure false by cases e <;> rfl) (swapped_sub _)).se ?_
    refine he X W G ρ h H env σ _ r er (QR.imp (QS.lift r er q) fun y H1 ⟨ρ1, h1, v, s1, r1, t1, Ea, q1⟩ => ?_)
    rw [E1] at Ea; cases Ea
    have er1 := er.step r s1
    refine ho X W G ρ1 _ H1 env σ _ r1 er1 (QR.imp (QS.lift r1 er1 q1) fun x H2 ⟨ρ2, h2, ov, s2, r2, t2, Eb, q2⟩ => ?_)
    rw [E2] at Eb; cases Eb
    have er2 := er1.step r1 s2
    refine hix X W G ρ2 _ H2 env σ _ r2 er2 (QR.imp (QS.lift r2 er2 q2) fun z H3 ⟨ρ3, h3, iv, s3, r3, t3, Ec, q3⟩ => ?_)
    rw [E3] at Ec; cases Ec
    cases ov0 with
    | ref a =>
      obtain ⟨ha, rfl⟩ := (t2.step r2 s3).of_ref
      unfold isLstAt at E4
      dsimp only at E4
      cases za : h30[a]? with
      | none => rw [za] at E4; cases E4
      | some cl =>
        obtain ⟨b, cl⟩ := cl
        rw [za] at E4
        cases cl with
        | lst xs =>
          unfold putAt at q3
          dsimp only at q3
          rw [za] at q3
          cases b with
          | true => exact q3.elim
          | false =>
            cases iv0 with
            | int k =>
              dsimp only at q3
              cases zj : ixN xs.length k with
              | none => rw [zj] at q3; exact q3.elim
              | some j =>
                rw [zj] at q3
                cases t3.of_int
                obtain ⟨hl, us, e1, e2⟩ := r3.obj a false _ za
                have st : Stp ρ3 ρ3 h30 (h30.set a (false, .lst (xs.set j v0))) H3 (upd H3 (ρ3 a) (.lst (us.set j y))) := Stp.write r3 za
                refine ⟨_, us, k, j, rfl, rfl, e1, by rw [← e2.length]; exact zj, ?_⟩
                have tv := ((t1.step r1 s2).step r2 s3).step r3 st
                have e2' := e2.step r3 st
                rw [List.length_set] at tv e2'
                exact q3 ρ3 _ σ st (r3.write za ⟨by rw [List.length_set]; exact hl, _, upd_same, VRs.set tv j e2'⟩) ((er2.step r2 s3).step r3 st)
            | _ => exact q3.elim
        | dct _ => cases E4
        | ins _ _ => cases E4
    | _ => cases E4
  · refine (ps_dput (hu1 G) (self_e X o) (self_e X i) (self_e X e) hsw).se ?_
    refine he X W G ρ h H env σ _ r er (QR.imp (QS.lift r er q) fun y H1 ⟨ρ1, h1, v, s1, r1, t1, Ea, q1⟩ => ?_)
    have er1 := er.step r s1
    refine ho X W G ρ1 _ H1 env σ _ r1 er1 (QR.imp (QS.lift r1 er1 q1) fun x H2 ⟨ρ2, h2, ov, s2, r2, t2, Eb, q2⟩ => ?_)
    have er2 := er1.step r1 s2
    refine hix X W G ρ2 _ H2 env σ _ r2 er2 (QR.imp (QS.lift r2 er2 q2) fun z H3 ⟨ρ3, h3, iv, s3, r3, t3, Ec, q3⟩ => ?_)
    cases ov with
    | ref a =>
      obtain ⟨ha, rfl⟩ := (t2.step r2 s3).of_ref
      unfold putAt at q3
      dsimp only at q3
      cases za : h3[a]? with
      | none => rw [za] at q3; exact q3.elim
      | some cl =>
        obtain ⟨b, cl⟩ := cl
        rw [za] at q3
        cases b with
        | true => cases cl <;> exact q3.elim
        | false =>
          cases cl with
          | lst xs => exact absurd ⟨v, h1, _, h2, iv, h3, Ea, Eb, Ec, by unfold isLstAt; dsimp only; rw [za]⟩ hL
          | ins _ _ => exact q3.elim
          | dct kvs =>
            dsimp only at q3
            cases zk : keyV iv with
            | none => rw [zk] at q3; exact q3.elim
            | some k =>
              rw [zk] at q3
              dsimp only at q3
              by_cases hl : kvs.length < lim
              · rw [if_pos hl] at q3
                obtain ⟨hz, us, e1, e2⟩ := r3.obj a false _ za
                have hk := keyV_kok zk t3
                cases keyV_ok zk t3
                have hl2 : us.length < sizeLine := by rw [← e2.length]; exact Nat.lt_of_lt_of_le hl (by decide)
                refine ⟨_, _, rfl, DPut.k e1 hl2, ?_⟩
                have st : Stp ρ3 ρ3 h3 (h3.set a (false, .dct (setK kvs k v))) H3 (upd H3 (ρ3 a) (.dK (putK us k y))) := Stp.write r3 za
                have tv := ((t1.step r1 s2).step r2 s3).step r3 st
                have e2' := e2.step r3 st
                rw [List.length_set] at tv e2'
                exact q3 ρ3 _ σ st (r3.write za ⟨hz.put hl hk, _, upd_same, KR.put tv e2'⟩) ((er2.step r2 s3).step r3 st)
              · rw [if_neg hl] at q3; exact q3.elim
    | _ => exact q3.elim
end
end MP
end
section
set_option autoImplicit false
set_option linter.all false
namespace MP
open PySem L2
structure Src where
  xs : List Val
  lk : Option Nat
def lockH (h : Heap) (lk : Option Nat) : Heap := match lk with
  | none => h
  | some a => (match h[a]? with
    | some (false, b) => h.set a (true, b)
    | _ => h)
/-- h0: the heap ahead of the lock -/
def unlockH (h0 h : Heap) (lk : Option Nat) : Heap := match lk with
  | none => h
  | some a => (match h0[a]? with
    | some (false, b) => h.set a (false, b)
    | _ => h)
def unlS (h0 : Heap) (lk : Option Nat) : SR → SR
  | .nx e h => .nx e (unlockH h0 h lk)
  | .rt v h => .rt v (unlockH h0 h lk)
  | .bk e h => .bk e (unlockH h0 h lk)
  | .ct e h => .ct e (unlockH h0 h lk)
  | r => r
def forGo (f : Val → Env → Heap → SR) : List Val → Env → Heap → SR
  | [], env, h => .nx env h
  | v :: r, env, h => match f v env h with
    | .nx e h => forGo f r e h
    | .ct e h => forGo f r e h
    | .bk e h => .nx e h
    | q => q
def sFor (fi : Env → Heap → Rs Src) (ft : Fg) (fb : Fs) : Fs := fun env h => liftS (fi env h) env fun src h1 => unlS h1 src.lk (forGo (fun v env h => liftS (ft v env h) env fb) src.xs env (lockH h1 src.lk))
section
variable {g : G} {lv : Nat} {N : List Str} {sc : Scope}
def LockR (X : Cx) (ρ : Nat → Addr) (h : Heap) (H : Hp) (lk : Option Nat) (H2 : Hp) : Prop := match lk with
  | none => H2 = H
  | some a => (match h[a]? with
    | some (false, .dct _) => ∃ od xs, H (ρ a) = some (.dK xs) ∧ (∀ o' u', X.H_0 (ρ a) ≠ some (.frz o' u')) ∧ H2 = upd H (ρ a) (.frz od (.dK xs))
    | some (false, .lst _) => H2 = H
    | some (false, .ins _ _) => False
    | some (true, _) => H2 = H
    | none => False)
def UnlR (X : Cx) (H H' : Hp) : Prop := H' = H ∨ ∃ d od u, H d = some (.frz od u) ∧ (∀ o' u', X.H_0 d ≠ some (.frz o' u')) ∧ H' = upd H d u
def notTup : HO → Prop
  | .tup _ => False
  | .frz _ _ => False
  | .ext _ => False
  | _ => True
theorem off_seq {H : Hp} {D : Addr} {o o' : HO} (e : H D = some o) (n : notTup o) : Fx g.K H (upd H D o') := by
  refine ⟨fun a xs ⟨q, pe⟩ => ?_, fun b ns q => ?_, fun b φ q => by rw [upd_ne (by rintro rfl; rw [e] at q; cases q; exact n)]; exact q⟩
  case refine_2 =>
    rcases q with ⟨u, q⟩ | q
    · exact .inl ⟨u, by rw [upd_ne (by rintro rfl; rw [e] at q; cases q; exact n)]; exact q⟩
    · exact .inr q
  refine ⟨?_, fun zz => by
    obtain ⟨u, k, q | q, rest⟩ := pe zz
    · exact ⟨u, k, .inl (by rw [upd_ne (by rintro rfl; rw [e] at q; cases q; exact n)]; exact q), rest⟩
    · exact ⟨u, k, .inr q, rest⟩⟩
  rcases q with (q | ⟨u, q⟩) | q
  · refine .inl (.inl ?_)
    rw [upd_ne (by rintro rfl; rw [e] at q; cases q; exact n)]; exact q
  · refine .inl (.inr ⟨u, ?_⟩)
    rw [upd_ne (by rintro rfl; rw [e] at q; cases q; exact n)]; exact q
  · exact .inr q
structure SrcOk (g : G) (J : L2.It) (xs : List Val) (S : (Nat → Addr) → Heap → Hp → Prop) : Prop where
  go : ∀ ρ h H i, S ρ h H → Rel g ρ h H → i < xs.length → J.go i H
  stop : ∀ ρ h H, S ρ h H → Rel g ρ h H → J.stop xs.length H
  yld : ∀ ρ h H i v x H', S ρ h H → Rel g ρ h H → xs[i]? = some v → J.yld i H x H' → Stp ρ ρ h h H H' ∧ Rel g ρ h H' ∧ VR g ρ h.length H' v x
  step : ∀ ρ ρ' h h' H H', S ρ h H → Rel g ρ h H → Stp ρ ρ' h h' H H' → S ρ' h' H'
  lay : ∀ ρ h H D o o', S ρ h H → H D = some o → notTup o → S ρ h (upd H D o')
def QI (g : G) (X : Cx) (W : WX) (ρ : Nat → Addr) (h : Heap) (H : Hp) (σ : L2.St) (r : Rs Src) (R : L2.It → Hp → Prop) : Prop := match r with
  | .ok src h1 => ∀ ρ1 H1 H2 J S, Stp ρ ρ1 h h1 H H1 → Rel g ρ1 h1 H1 → LockR X ρ1 h1 H1 src.lk H2 → SrcOk g J src.xs S → S ρ1 (lockH h1 src.lk) H2 → R J H2
  | .ex c fs h' => ∀ ρ' H' d xs, Stp ρ ρ' h h' H H' → Rel g ρ' h' H' → H' d = some (.xd xs) → KR g ρ' h'.length H' fs xs → W (.ref (g.C c)) (some d) σ H'
  | .bad => False
abbrev Fi := Env → Heap → Rs Src
def SoI (g : G) (lv : Nat) (N : List Str) (sc : Scope) (f : Fi) (tg it : Expr) : Prop :=
  ∀ (X : Cx) (W : WX), Good g X N sc W lv → ∀ (ρ : Nat → Addr) (h : Heap) (H : Hp) (env : Env) (σ : L2.St) (R : L2.It → Hp → Prop), Rel g ρ h H → ER g ρ h.length H env σ → QI g X W ρ h H σ (f env h) R → SI X tg it σ H R
theorem lock_len (h : Heap) (lk : Option Nat) : (lockH h lk).length = h.length := by
  unfold lockH
  split
  · rfl
  · split
    · rw [List.length_set]
    · rfl
theorem unlock_len (h0 h : Heap) (lk : Option Nat) : (unlockH h0 h lk).length = h.length := by
  unfold unlockH
  split
  · rfl
  · split
    · rw [List.length_set]
    · rfl
theorem lock_step {X : Cx} {ρ : Nat → Addr} {h : Heap} {H H2 : Hp} {lk : Option Nat} (r : Rel g ρ h H) (l : LockR X ρ h H lk H2) : Stp ρ ρ h (lockH h lk) H H2 ∧ Rel g ρ (lockH h lk) H2 := by
  cases lk with
  | none => cases (show H2 = H from l); exact ⟨Stp.refl .., r⟩
  | some a =>
    unfold LockR at l
    unfold lockH
    dsimp only at l ⊢
    cases z : h[a]? with
    | none => rw [z] at l; exact l.elim
    | some c =>
      obtain ⟨b, c⟩ := c
      rw [z] at l
      cases b with
      | true => cases (show H2 = H from l); exact ⟨Stp.refl .., r⟩
      | false =>
        have hlen : ∀ c', (h.set a (true, c')).length = h.length := fun c' => List.length_set
        cases c with
        | ins _ _ => exact l.elim
        | lst vs =>
          cases (show H2 = H from l)
          dsimp only
          have st : Stp ρ ρ h (h.set a (true, .lst vs)) H H := by
            refine ⟨by rw [hlen]; exact Nat.le_refl _, fun _ _ => rfl, fun j a' b' => absurd b' (by rw [hlen]; omega), fun _ e => e, fun b o e _ => e, fun i c e => ?_⟩
            rw [List.getElem?_set_ne (by rintro rfl; rw [z] at e; cases e)]; exact e
          refine ⟨st, ⟨fun i j hi hj => r.inj i j (by rw [hlen] at hi; exact hi) (by rw [hlen] at hj; exact hj), fun i b c e => ?_⟩⟩
          rw [hlen]
          rcases set_get e with ⟨rfl, q⟩ | ⟨hi, q⟩
          · cases q
            obtain ⟨hl, xs, e1, e2⟩ := r.obj _ _ _ z
            exact ⟨hl, xs, e1, e2⟩
          · exact r.obj i b c q
        | dct vs =>
          obtain ⟨od, xs, e1, _, rfl⟩ := l
          dsimp only
          have st : Stp ρ ρ h (h.set a (true, .dct vs)) H (upd H (ρ a) (.frz od (.dK xs))) := by
            refine ⟨by rw [hlen]; exact Nat.le_refl _, fun _ _ => rfl, fun j a' b' => absurd b' (by rw [hlen]; omega), fun b e => ?_, fun b o e hn => ?_, fun i c e => ?_⟩
            · by_cases hb : b = ρ a
              · rw [hb, upd_same] at e; cases e
              · rw [upd_ne hb] at e; exact e
            · rw [upd_ne (fun q => hn a _ z q.symm)]; exact e
            · rw [List.getElem?_set_ne (by rintro rfl; rw [z] at e; cases e)]; exact e
          refine ⟨st, ⟨fun i j hi hj => r.inj i j (by rw [hlen] at hi; exact hi) (by rw [hlen] at hj; exact hj), fun i b c e => ?_⟩⟩
          rw [hlen]
          rcases set_get e with ⟨rfl, q⟩ | ⟨hi, q⟩
          · cases q
            obtain ⟨hl, ys, e1', e2⟩ := r.obj _ _ _ z
            rw [e1] at e1'; cases e1'
            have e2' := e2.step r st
            rw [hlen] at e2'
            exact ⟨hl, od, xs, upd_same, e2'⟩
          · refine (r.obj i b c q).mono (fun _ _ => rfl) (Nat.le_refl _) (st.seqT r) (upd_ne fun p => hi (r.inj i a (lt_of_get q) (lt_of_get z) p))
theorem unlock_step {X : Cx} {ρ ρ3 : Nat → Addr} {h h3 : Heap} {H H2 H3 : Hp} {lk : Option Nat} (r : Rel g ρ h H) (l : LockR X ρ h H lk H2) (st : Stp ρ ρ3 (lockH h lk) h3 H2 H3) (r3 : Rel g ρ3 h3 H3) :
    ∃ H4, UnlR X H3 H4 ∧ Stp ρ ρ3 h (unlockH h h3 lk) H H4 ∧ Rel g ρ3 (unlockH h h3 lk) H4 ∧ Fx g.K H3 H4 := by
  obtain ⟨ls, lr⟩ := lock_step r l
  have st1 := ls.trans st
  cases lk with
  | none => exact ⟨H3, .inl rfl, st1, r3, ⟨fun _ _ e => e, fun _ _ e => e, fun _ _ e => e⟩⟩
  | some a =>
    unfold LockR at l
    unfold unlockH
    dsimp only at l ⊢
    cases z : h[a]? with
    | none => rw [z] at l; exact l.elim
    | some c =>
      obtain ⟨b, c⟩ := c
      rw [z] at l
      cases b with
      | true => exact ⟨H3, .inl rfl, st1, r3, ⟨fun _ _ e => e, fun _ _ e => e, fun _ _ e => e⟩⟩
      | false =>
        have ha : a < h.length := lt_of_get z
        have hl3 : (lockH h (some a))[a]? = some (true, c) := by
          unfold lockH
          dsimp only
          rw [z]
          exact List.getElem?_set_self ha
        have hc3 : h3[a]? = some (true, c) := st.lck a c hl3
        have hρ : ρ3 a = ρ a := st1.agr a ha
        have hlen : ∀ c', (h3.set a (false, c')).length = h3.length := fun c' => List.length_set
        cases c with
        | ins _ _ => exact l.elim
        | lst vs =>
          cases (show H2 = H from l)
          dsimp only
          obtain ⟨hl, xs, e1, e2⟩ := r.obj a false _ z
          have e3 : H3 (ρ a) = some (.lst xs) := st.frm _ _ e1 fun i c' ei er => by
            have hi := lt_of_get ei
            rw [lock_len] at hi
            have : i = a := r.inj i a hi ha er
            subst this
            rw [hl3] at ei; cases ei
          refine ⟨H3, .inl rfl, ⟨by rw [hlen]; exact st1.len, st1.agr, fun i h1' h2' => st1.new i h1' (by rw [hlen] at h2'; exact h2'), st1.kep, st1.frm, fun i c' e => ?_⟩, ⟨fun i j hi hj => r3.inj i j (by rw [hlen] at hi; exact hi) (by rw [hlen] at hj; exact hj), fun i b c' e => ?_⟩, ⟨fun _ _ e => e, fun _ _ e => e, fun _ _ e => e⟩⟩
          · rw [List.getElem?_set_ne (by rintro rfl; rw [z] at e; cases e)]; exact st1.lck i c' e
          · rw [hlen]
            rcases set_get e with ⟨rfl, q⟩ | ⟨hi, q⟩
            · cases q
              rw [hρ]
              obtain ⟨hl', ys, e1', e2'⟩ := r3.obj _ _ _ hc3
              rw [hρ, e3] at e1'
              cases e1'
              exact ⟨hl', xs, e3, e2'⟩
            · exact r3.obj i b c' q
        | dct vs =>
          obtain ⟨od, xs, e1, nf, rfl⟩ := l
          dsimp only
          have e3 : H3 (ρ a) = some (.frz od (.dK xs)) := st.frm _ _ upd_same fun i c' ei er => by
            have hi := lt_of_get ei
            rw [lock_len] at hi
            have : i = a := r.inj i a hi ha er
            subst this
            rw [hl3] at ei; cases ei
          have seq4 : Fx g.K H3 (upd H3 (ρ a) (.dK xs)) := by
            refine ⟨fun b ys ⟨e, pe⟩ => ?_, fun b ns e => ?_, fun b φ e => by rw [upd_ne (by rintro rfl; rw [e3] at e; cases e)]; exact e⟩
            case refine_2 =>
              rcases e with ⟨o, e⟩ | e
              · exact .inl ⟨o, by rw [upd_ne (by rintro rfl; rw [e3] at e; cases e)]; exact e⟩
              · exact .inr e
            refine ⟨?_, fun zz => by
              obtain ⟨o, n, q | q, rest⟩ := pe zz
              · exact ⟨o, n, .inl (by rw [upd_ne (by rintro rfl; rw [e3] at q; cases q)]; exact q), rest⟩
              · exact ⟨o, n, .inr q, rest⟩⟩
            rcases e with (e | ⟨o, e⟩) | e
            · refine .inl (.inl ?_); rw [upd_ne (by rintro rfl; rw [e3] at e; cases e)]; exact e
            · refine .inl (.inr ⟨o, ?_⟩); rw [upd_ne (by rintro rfl; rw [e3] at e; cases e)]; exact e
            · exact .inr e
          refine ⟨upd H3 (ρ a) (.dK xs), .inr ⟨_, od, _, e3, nf, rfl⟩, ⟨by rw [hlen]; exact st1.len, st1.agr, fun i h1' h2' => st1.new i h1' (by rw [hlen] at h2'; exact h2'), fun b e => ?_, fun b o e hn => ?_, fun i c' e => ?_⟩, ⟨fun i j hi hj => r3.inj i j (by rw [hlen] at hi; exact hi) (by rw [hlen] at hj; exact hj), fun i b c' e => ?_⟩, seq4⟩
          · by_cases hb : b = ρ a
            · rw [hb, upd_same] at e; cases e
            · rw [upd_ne hb] at e; exact st1.kep b e
          · rw [upd_ne (fun q => hn a _ z q.symm)]; exact st1.frm b o e hn
          · rw [List.getElem?_set_ne (by rintro rfl; rw [z] at e; cases e)]; exact st1.lck i c' e
          · rw [hlen]
            rcases set_get e with ⟨rfl, q⟩ | ⟨hi, q⟩
            · cases q
              rw [hρ]
              obtain ⟨hl', o', ys, e1', e2'⟩ := r3.obj _ _ _ hc3
              rw [hρ, e3] at e1'
              cases e1'
              exact ⟨hl', xs, upd_same, e2'.mono (fun _ _ => rfl) (Nat.le_refl _) seq4⟩
            · exact (r3.obj i b c' q).mono (fun _ _ => rfl) (Nat.le_refl _) seq4 (upd_ne fun p => hi (r3.inj i a (lt_of_get q) (lt_of_get hc3) (p.trans hρ.symm)))
def unlD (X : Cx) (D : Ends) : Ends := ⟨fun σ H => ∃ H4, UnlR X H H4 ∧ D.nx σ H4, fun v H => ∃ H4, UnlR X H H4 ∧ D.rt v H4, fun σ H => ∃ H4, UnlR X H H4 ∧ D.bk σ H4, fun σ H => ∃ H4, UnlR X H H4 ∧ D.ct σ H4⟩
theorem inv_unl {X : Cx} {pins : List (Addr × Obj)} {σ : L2.St} {H H4 : Hp} {s : Shared} (I : Inv X pins σ H s) (u : UnlR X H H4) : Inv X pins σ H4 s := by
  rcases u with rfl | ⟨d, od, u, e, nf, rfl⟩
  · exact I
  · exact I.unlock e nf
theorem ss_unl {X : Cx} {st : Stmt} {D : Ends} {σ : L2.St} {H : Hp} (h : SSt X st (unlD X D) σ H) : SSt X st D σ H := fun pins s I => by
  refine thn (h pins s I) fun f s1 q => ?_
  cases f with
  | next => obtain ⟨σ', H', I2, H4, u, q⟩ := q; exact ⟨σ', H4, inv_unl I2 u, q⟩
  | brk => obtain ⟨σ', H', I2, H4, u, q⟩ := q; exact ⟨σ', H4, inv_unl I2 u, q⟩
  | cont => obtain ⟨σ', H', I2, H4, u, q⟩ := q; exact ⟨σ', H4, inv_unl I2 u, q⟩
  | ret v => obtain ⟨x, σ', H', I2, r, H4, u, q⟩ := q; exact ⟨x, σ', H4, inv_unl I2 u, r, q⟩
def isSet : Expr → Bool
  | .Set .. => true
  | _ => false
theorem folded_no {e : Expr} (h : isSet e = false) (env : PySem.Env) : ∀ x, foldedSetIterable e env x = pure x := fun x => by
  cases e <;> first | rfl | cases h
theorem s_for {fi : Fi} {ft : Fg} {fb : Fs} {sl : List Nat} {tg it : Expr} {body : List Stmt} {pos : Pos} (hs : isSet it = false) (hx : ∀ v env h c fs h', ft v env h ≠ .ex c fs h') (hi : SoI g lv N sc fi tg it) (ht : SoG g lv N sc sl ft tg) (hb : SoSs g lv N sc fb body) :
    SoS g lv N sc (sFor fi ft fb) (.For tg it body [] pos) := by
  intro X W G ρ h H env σ D r er q
  refine ss_unl ?_
  refine (ps_for G.pown G.calm (self_i X tg it) (self_g X tg) (self_ss X body) (folded_no hs X.env)).se ?_
  refine hi X W G ρ h H env σ _ r er ?_
  have q' : QS g W ρ h H (liftS (fi env h) env fun src h1 => unlS h1 src.lk (forGo (fun v env h => liftS (ft v env h) env fb) src.xs env (lockH h1 src.lk))) D := q
  cases z : fi env h with
  | bad => rw [z] at q'; exact q'
  | ex c fs h' => rw [z] at q'; exact fun ρ' H' d xs s r' => q' ρ' H' σ d xs s r' (er.step r s)
  | ok src h1 =>
    rw [z] at q'
    obtain ⟨xs, lk⟩ := src
    intro ρ1 H1 H2 J S s1 r1 lr J1 S1
    dsimp only at lr J1 S1
    obtain ⟨ls, r2⟩ := lock_step r1 lr
    have q1 : QS g W ρ1 h1 H1 (unlS h1 lk (forGo (fun v env h => liftS (ft v env h) env fb) xs env (lockH h1 lk))) D := QS.step s1 q'
    have er2 := (er.step r s1).step r1 ls
    generalize hf : (fun v env h => liftS (ft v env h) env fb) = f at q1
    generalize hL : lockH h1 lk = hl at q1 ls r2 er2 S1
    -- ends
    have endN : ∀ ρ3 h3 H3 σ3 env3, Stp ρ1 ρ3 hl h3 H2 H3 → Rel g ρ3 h3 H3 → ER g ρ3 h3.length H3 env3 σ3 → QS g W ρ1 h1 H1 (unlS h1 lk (.nx env3 h3)) D → ∃ H4, UnlR X H3 H4 ∧ D.nx σ3 H4 := fun ρ3 h3 H3 σ3 env3 st3 r3 er3 qq => by
      rw [← hL] at st3
      obtain ⟨H4, u, st4, r4, sq⟩ := unlock_step r1 lr st3 r3
      refine ⟨H4, u, qq ρ3 H4 σ3 st4 r4 ?_⟩
      rw [unlock_len]
      exact ⟨er3.len, fun i v ev => let ⟨x, a, b⟩ := er3.val i v ev; ⟨x, a, b.mono (fun _ _ => rfl) (Nat.le_refl _) sq⟩⟩
    refine ⟨fun i m σ' H' => m = xs.length - i ∧ i ≤ xs.length ∧ ∃ ρ' h' env', Stp ρ1 ρ' hl h' H2 H' ∧ Rel g ρ' h' H' ∧ ER g ρ' h'.length H' env' σ' ∧ S ρ' h' H' ∧ forGo f xs env hl = forGo f (xs.drop i) env' h', ⟨xs.length, rfl, Nat.zero_le _, ρ1, hl, env, Stp.refl .., r2, er2, S1, rfl⟩, ?_⟩
    rintro i m σ' H' ⟨rfl, hi, ρ', h', env', st, rl, er', S', eq⟩
    by_cases hlt : i < xs.length
    · refine .inr ⟨J1.go ρ' h' H' i S' rl hlt, fun σ'' H'' => ∃ m', m' < xs.length - i ∧ (m' = xs.length - (i + 1) ∧ i + 1 ≤ xs.length ∧ ∃ ρ' h' env', Stp ρ1 ρ' hl h' H2 H'' ∧ Rel g ρ' h' H'' ∧ ER g ρ' h'.length H'' env' σ'' ∧ S ρ' h' H'' ∧ forGo f xs env hl = forGo f (xs.drop (i + 1)) env' h'), fun σ'' H'' z => z, fun x H'' y => ?_⟩
      have hget : xs[i]? = some xs[i] := by simp [hlt]
      obtain ⟨sy, ry, vy⟩ := J1.yld ρ' h' H' i xs[i] x H'' S' rl hget y
      have hdrop : xs.drop i = xs[i] :: xs.drop (i + 1) := List.drop_eq_getElem_cons hlt
      rw [hdrop] at eq
      have ery := er'.step rl sy
      have Sy := J1.step _ _ _ _ _ _ S' rl sy
      refine ht X W G ρ' h' H'' env' σ' xs[i] x _ ry ery vy ?_
      rw [← hf] at eq
      simp only [forGo] at eq
      cases zt : ft xs[i] env' h' with
      | bad => rw [zt] at eq; rw [← hf] at q1; rw [eq] at q1; exact q1
      | ex c fs h'' => exact absurd zt (hx _ _ _ _ _ _)
      | ok env2 h2 =>
        rw [zt] at eq
        intro ρ2 H2' σ2 st2 rl2 er2' _
        have S2 := J1.step _ _ _ _ _ _ Sy ry st2
        have stAll : Stp ρ1 ρ2 hl h2 H2 H2' := (st.trans sy).trans st2
        refine hb X W G ρ2 h2 H2' env2 σ2 _ rl2 er2' ?_
        have eq2 : forGo (fun v env h => liftS (ft v env h) env fb) xs env hl = match fb env2 h2 with
          | .nx e h => forGo (fun v env h => liftS (ft v env h) env fb) (xs.drop (i + 1)) e h
          | .ct e h => forGo (fun v env h => liftS (ft v env h) env fb) (xs.drop (i + 1)) e h
          | .bk e h => .nx e h
          | q => q := eq
        cases zb : fb env2 h2 with
        | nx env3 h3 =>
          rw [zb, hf] at eq2
          intro ρ3 H3 σ3 st3 r3 er3
          exact ⟨xs.length - (i + 1), by omega, rfl, hlt, ρ3, h3, env3, stAll.trans st3, r3, er3, J1.step _ _ _ _ _ _ S2 rl2 st3, eq2⟩
        | ct env3 h3 =>
          rw [zb, hf] at eq2
          intro ρ3 H3 σ3 st3 r3 er3
          exact ⟨xs.length - (i + 1), by omega, rfl, hlt, ρ3, h3, env3, stAll.trans st3, r3, er3, J1.step _ _ _ _ _ _ S2 rl2 st3, eq2⟩
        | bk env3 h3 =>
          rw [zb, hf] at eq2
          rw [eq2] at q1
          intro ρ3 H3 σ3 st3 r3 er3
          exact endN ρ3 h3 H3 σ3 env3 (stAll.trans st3) r3 er3 q1
        | rt v h3 =>
          rw [zb, hf] at eq2
          rw [eq2] at q1
          intro ρ3 H3 y3 st3 r3 v3
          have st3' := stAll.trans st3
          rw [← hL] at st3'
          obtain ⟨H4, u, st4, r4, sq⟩ := unlock_step r1 lr st3' r3
          refine ⟨H4, u, q1 ρ3 H4 y3 st4 r4 ?_⟩
          rw [unlock_len]
          exact v3.mono (fun _ _ => rfl) (Nat.le_refl _) sq
        | ex env3 c fs h3 =>
          rw [zb, hf] at eq2
          rw [eq2] at q1
          intro ρ3 H3 σ3 d xs3 st3 r3 er3 e3 k3
          exact q1 ρ3 H3 σ3 d xs3 (ls.trans (stAll.trans st3)) r3 er3 e3 k3
        | bad =>
          rw [zb, hf] at eq2
          rw [eq2] at q1
          exact q1
    · have e : i = xs.length := by omega
      subst e
      refine .inl ⟨J1.stop ρ' h' H' S' rl, ?_⟩
      rw [List.drop_length] at eq
      rw [eq] at q1
      exact endN ρ' h' H' σ' env' st rl er' q1
def whileGo (fc : Env → Heap → Rs Bool) (fb : Fs) : Nat → Fs
  | 0, _, _ => .bad
  | n + 1, env, h => liftS (fc env h) env fun b h1 => if b then (match fb env h1 with
      | .nx e h => whileGo fc fb n e h
      | .ct e h => whileGo fc fb n e h
      | .bk e h => .nx e h
      | q => q) else .nx env h1
theorem s_while {fc : Env → Heap → Rs Bool} {fb : Fs} {n : Nat} {c : Expr} {body : List Stmt} {pos : Pos} (hc : SoT g lv N sc fc c) (hb : SoSs g lv N sc fb body) : SoS g lv N sc (whileGo fc fb n) (.While c body [] pos) := by
  intro X W G ρ h H env σ D r er q
  refine (ps_while G.pown (self_t X c) (self_ss X body)).se ?_
  refine ⟨fun m σ' H' => ∃ ρ' h' env', Stp ρ ρ' h h' H H' ∧ Rel g ρ' h' H' ∧ ER g ρ' h'.length H' env' σ' ∧ QS g W ρ' h' H' (whileGo fc fb m env' h') D, ⟨n, ρ, h, env, Stp.refl .., r, er, q⟩, ?_⟩
  rintro m σ' H' ⟨ρ', h', env', st, rl, er', q'⟩
  cases m with
  | zero => exact q'.elim
  | succ m =>
    have q2 : QS g W ρ' h' H' (liftS (fc env' h') env' fun b h1 => if b then (match fb env' h1 with
      | .nx e h => whileGo fc fb m e h
      | .ct e h => whileGo fc fb m e h
      | .bk e h => .nx e h
      | q => q) else .nx env' h1) D := q'
    refine hc X W G ρ' h' H' env' σ' _ rl er' (QR.imp (QS.lift rl er' q2) fun b H1 ⟨ρ1, h1, b', s1, r1, t1, _, q3⟩ => ?_)
    cases t1
    have er1 := er'.step rl s1
    cases b with
    | false => exact q3 ρ1 H1 σ' (Stp.refl ..) r1 er1
    | true =>
      refine ⟨fun σ'' H'' => ∃ m', m' < m + 1 ∧ ∃ ρ' h' env', Stp ρ ρ' h h' H H'' ∧ Rel g ρ' h' H'' ∧ ER g ρ' h'.length H'' env' σ'' ∧ QS g W ρ' h' H'' (whileGo fc fb m' env' h') D, fun σ'' H'' z => z, ?_⟩
      refine hb X W G ρ1 h1 H1 env' σ' _ r1 er1 ?_
      simp only [if_true] at q3
      cases zb : fb env' h1 with
      | nx env3 h3 =>
        rw [zb] at q3
        intro ρ3 H3 σ3 st3 r3 er3
        exact ⟨m, Nat.lt_succ_self _, ρ3, h3, env3, (st.trans s1).trans st3, r3, er3, QS.step st3 q3⟩
      | ct env3 h3 =>
        rw [zb] at q3
        intro ρ3 H3 σ3 st3 r3 er3
        exact ⟨m, Nat.lt_succ_self _, ρ3, h3, env3, (st.trans s1).trans st3, r3, er3, QS.step st3 q3⟩
      | bk env3 h3 => rw [zb] at q3; exact q3
      | rt v h3 => rw [zb] at q3; exact q3
      | ex env3 c fs h3 => rw [zb] at q3; exact q3
      | bad => rw [zb] at q3; exact q3
end
end MP
end
section
set_option autoImplicit false
set_option linter.all false
namespace MP
open PySem L2
section
variable {g : G} {lv : Nat} {N : List Str} {sc : Scope}
theorem QI.bind {X : Cx} {α β : Type} {T : (Nat → Addr) → Nat → Hp → α → β → Prop} {W : WX} {ρ : Nat → Addr} {h : Heap} {H : Hp} {σ : L2.St} {r : Rs α} {f : α → Heap → Rs Src} {R : L2.It → Hp → Prop} (q : QI g X W ρ h H σ (r.bind f) R) :
    QR g T W ρ h H σ r fun b H1 => ∃ ρ1 h1 a, Stp ρ ρ1 h h1 H H1 ∧ Rel g ρ1 h1 H1 ∧ T ρ1 h1.length H1 a b ∧ r = .ok a h1 ∧ QI g X W ρ1 h1 H1 σ (f a h1) R := by
  cases r with
  | ok a h' =>
    refine fun ρ' H' b s r t => ⟨ρ', h', a, s, r, t, rfl, ?_⟩
    have q' : QI g X W ρ h H σ (f a h') R := q
    cases z : f a h' with
    | ok src h1 => rw [z] at q'; exact fun ρ1 H1 H2 J S s1 => q' ρ1 H1 H2 J S (s.trans s1)
    | ex c fs h1 => rw [z] at q'; exact fun ρ1 H1 d xs s1 => q' ρ1 H1 d xs (s.trans s1)
    | bad => rw [z] at q'; exact q'
  | ex c fs h' => exact q
  | bad => exact q
theorem VRs.get {ρ : Nat → Addr} {n : Nat} {H : Hp} : ∀ {vs : List Val} {xs : List L2.V} {i : Nat} {v : Val}, VRs g ρ n H vs xs → vs[i]? = some v → ∃ x, xs[i]? = some x ∧ VR g ρ n H v x
  | [], _, _, _, _, e => by simp at e
  | u :: vs, xs, i, v, t, e => by
    rw [VRs] at t
    obtain ⟨x, r, rfl, t1, t2⟩ := t
    cases i with
    | zero => simp at e; subst e; exact ⟨x, rfl, t1⟩
    | succ i =>
      obtain ⟨y, a, b⟩ := VRs.get (i := i) t2 (by simpa using e)
      exact ⟨y, by simpa using a, b⟩
theorem src_list {K : PySem.W.Frag} (hK : K = g.K) {a : Nat} {a0 : Addr} {xs : List Val} : SrcOk g (Itl K a0) xs (fun ρ h _ => h[a]? = some (true, .lst xs) ∧ ρ a = a0) := by
  subst hK
  have key : ∀ (ρ : Nat → Addr) (h : Heap) (H : Hp), (h[a]? = some (true, .lst xs) ∧ ρ a = a0) → Rel g ρ h H → ∃ ys, SqL g.K H a0 ys ∧ VRs g ρ h.length H xs ys := fun ρ h H S r => by
    obtain ⟨ys, e1, e2, _⟩ := r.lst (i := a) (vs := xs) (by unfold rd; rw [S.1]; rfl)
    rw [S.2] at e1
    exact ⟨ys, e1, e2⟩
  refine ⟨fun ρ h H i S r hi => ?_, fun ρ h H S r => ?_, fun ρ h H i v x H' S r e y => ?_, fun ρ ρ' h h' H H' S r st => ?_, fun _ _ _ _ _ _ S _ _ => S⟩
  · obtain ⟨ys, e1, e2⟩ := key ρ h H S r
    exact ⟨ys, ys[i]'(by rw [← e2.length]; exact hi), e1, by simp [← e2.length, hi]⟩
  · obtain ⟨ys, e1, e2⟩ := key ρ h H S r
    exact ⟨ys, e1, by rw [e2.length]; exact Nat.le_refl _⟩
  · obtain ⟨rfl, y⟩ := y
    obtain ⟨ys, e1, e2⟩ := key ρ h _ S r
    obtain ⟨z, a1, a2⟩ := e2.get e
    have := y ys e1
    rw [a1] at this; cases this
    exact ⟨Stp.refl .., r, a2⟩
  · exact ⟨st.lck a _ S.1, by rw [st.agr a (lt_of_get S.1)]; exact S.2⟩
theorem src_scr {K : PySem.W.Frag} (hK : K = g.K) {a0 : Addr} {ns : List Int} : SrcOk g (Itl K a0) (ns.map Val.int) (fun ρ h H => ScrAt g.K H a0 ns) := by
  subst hK
  refine ⟨fun ρ h H i S r hi => ?_, fun ρ h H S r => ?_, fun ρ h H i v x H' S r e y => ?_, fun ρ ρ' h h' H H' S r st => (st.seqT r).scr _ _ S, fun ρ h H D o o' S e n => (off_seq (g := g) e n).scr _ _ S⟩
  · rw [List.length_map] at hi
    exact ⟨_, L2.V.int ns[i], S.sq, by simp [hi]⟩
  · exact ⟨_, S.sq, by simp⟩
  · obtain ⟨rfl, y⟩ := y
    have := y _ S.sq
    rw [List.getElem?_map] at this e
    obtain ⟨j, e1, e2⟩ := Option.map_eq_some_iff.mp e
    rw [e1] at this
    cases e2
    cases this
    exact ⟨Stp.refl .., r, VR.int⟩
theorem src_tup {K : PySem.W.Frag} (hK : K = g.K) {a0 : Addr} {xs : List Val} {ys : List L2.V} : SrcOk g (Itt K a0) xs (fun ρ h H => TupAt g.K H a0 ys ∧ VRs g ρ h.length H xs ys) := by
  subst hK
  refine ⟨fun ρ h H i S r hi => ?_, fun ρ h H S r => ?_, fun ρ h H i v x H' S r e y => ?_, fun ρ ρ' h h' H H' S r st => ?_, fun ρ h H D o o' S e n => ⟨(off_seq (g := g) e n).tup _ _ S.1, S.2.mono (fun _ _ => rfl) (Nat.le_refl _) (off_seq e n)⟩⟩
  · exact ⟨ys, ys[i]'(by rw [← S.2.length]; exact hi), S.1.1, by simp [← S.2.length, hi]⟩
  · exact ⟨ys, S.1.1, by rw [S.2.length]; exact Nat.le_refl _⟩
  · obtain ⟨rfl, y⟩ := y
    obtain ⟨z, a1, a2⟩ := S.2.get e
    have := y ys S.1.1
    rw [a1] at this; cases this
    exact ⟨Stp.refl .., r, a2⟩
  · exact ⟨(st.seqT r).tup _ _ S.1, S.2.step r st⟩
def rngV (lo : Int) (n : Nat) : List Val := (List.range n).map fun (i : Nat) => Val.int (lo + (i : Int))
theorem src_rng {lo : Int} {n : Nat} : SrcOk g (Itr lo n) (rngV lo n) (fun _ _ _ => True) := by
  have hl : (rngV lo n).length = n := by simp [rngV]
  refine ⟨fun ρ h H i S r hi => by rw [hl] at hi; exact hi, fun ρ h H S r => by rw [hl]; exact Nat.le_refl _, fun ρ h H i v x H' S r e y => ?_, fun _ _ _ _ _ _ _ _ _ => True.intro, fun _ _ _ _ _ _ _ _ _ => True.intro⟩
  obtain ⟨rfl, rfl⟩ := y
  have hi := lt_of_get e
  rw [hl] at hi
  simp [rngV, hi] at e
  subst e
  exact ⟨Stp.refl .., r, VR.int⟩
def strV (z : Str) : List Val := z.cps.toList.map fun c => Val.str ⟨#[c]⟩
theorem src_str {z : Str} : SrcOk g (Its z) (strV z) (fun _ _ _ => True) := by
  have hl : (strV z).length = z.cps.size := by simp [strV]
  refine ⟨fun ρ h H i S r hi => by rw [hl] at hi; exact hi, fun ρ h H S r => by rw [hl]; exact Nat.le_refl _, fun ρ h H i v x H' S r e y => ?_, fun _ _ _ _ _ _ _ _ _ => True.intro, fun _ _ _ _ _ _ _ _ _ => True.intro⟩
  obtain ⟨rfl, c, ec, rfl⟩ := y
  have : (strV z)[i]? = some (.str ⟨#[c]⟩) := by
    unfold strV
    rw [List.getElem?_map, Array.getElem?_toList, ec]
    rfl
  rw [this] at e; cases e
  exact ⟨Stp.refl .., r, VR.str (by show (1 : Nat) ≤ sizeLine; decide)⟩
/-- a dict that is locked -/
def DS (a : Nat) (d : Addr) (od : Obj) (kvs : List (Key × Val)) (ys : List (Key × L2.V)) : (Nat → Addr) → Heap → Hp → Prop := fun ρ h H => h[a]? = some (true, .dct kvs) ∧ ρ a = d ∧ H d = some (.frz od (.dK ys))
theorem DS.kr {a : Nat} {d : Addr} {od : Obj} {kvs : List (Key × Val)} {ys : List (Key × L2.V)} {ρ : Nat → Addr} {h : Heap} {H : Hp} (S : DS a d od kvs ys ρ h H) (r : Rel g ρ h H) : KR g ρ h.length H kvs ys ∧ DLen kvs := by
  obtain ⟨e1, e2, e3⟩ := S
  obtain ⟨hl, o, xs, a1, a2⟩ := r.obj a true _ e1
  rw [e2, e3] at a1
  cases a1
  exact ⟨a2, hl⟩
theorem DS.step {a : Nat} {d : Addr} {od : Obj} {kvs : List (Key × Val)} {ys : List (Key × L2.V)} {ρ ρ' : Nat → Addr} {h h' : Heap} {H H' : Hp} (S : DS a d od kvs ys ρ h H) (r : Rel g ρ h H) (st : Stp ρ ρ' h h' H H') : DS a d od kvs ys ρ' h' H' := by
  obtain ⟨e1, e2, e3⟩ := S
  refine ⟨st.lck a _ e1, by rw [st.agr a (lt_of_get e1)]; exact e2, st.frm d _ e3 fun i c ei er => ?_⟩
  have : i = a := r.inj i a (lt_of_get ei) (lt_of_get e1) (er.trans e2.symm)
  subst this
  rw [e1] at ei; cases ei
theorem DS.lay {a : Nat} {d : Addr} {od : Obj} {kvs : List (Key × Val)} {ys : List (Key × L2.V)} {ρ : Nat → Addr} {h : Heap} {H : Hp} {D : Addr} {o o' : HO} (S : DS a d od kvs ys ρ h H) (e : H D = some o) (n : notTup o) : DS a d od kvs ys ρ h (upd H D o') := by
  obtain ⟨e1, e2, e3⟩ := S
  exact ⟨e1, e2, by rw [upd_ne (by rintro rfl; rw [e] at e3; cases e3; exact n)]; exact e3⟩
theorem KR.get {κ : Type} {ρ : Nat → Addr} {n : Nat} {H : Hp} : ∀ {vs : List (κ × Val)} {xs : List (κ × L2.V)} {i : Nat} {k : κ} {v : Val}, KR g ρ n H vs xs → vs[i]? = some (k, v) → ∃ x, xs[i]? = some (k, x) ∧ VR g ρ n H v x
  | [], _, _, _, _, _, e => by simp at e
  | (k', u) :: vs, xs, i, k, v, t, e => by
    rw [KR] at t
    obtain ⟨x, r, rfl, t1, t2⟩ := t
    cases i with
    | zero => simp at e; obtain ⟨rfl, rfl⟩ := e; exact ⟨x, rfl, t1⟩
    | succ i =>
      obtain ⟨y, a, b⟩ := KR.get (i := i) t2 (by simpa using e)
      exact ⟨y, by simpa using a, b⟩
theorem VR.key {ρ : Nat → Addr} {n : Nat} {H : Hp} {k : Key} (h : KOk k) : VR g ρ n H (vKey k) (kV k) := by
  cases k with
  | inl i => exact VR.int
  | inr x => exact VR.str h
theorem map_get {α β : Type} {l : List α} {f : α → β} {i : Nat} {b : β} (e : (l.map f)[i]? = some b) : ∃ a, l[i]? = some a ∧ f a = b := by
  rw [List.getElem?_map] at e
  cases z : l[i]? with
  | none => rw [z] at e; cases e
  | some a => rw [z] at e; exact ⟨a, rfl, Option.some.inj e⟩
theorem src_keys {a : Nat} {d : Addr} {od : Obj} {kvs : List (Key × Val)} {ys : List (Key × L2.V)} : SrcOk g (Itk d od ys) (kvs.map fun kv => vKey kv.1) (DS a d od kvs ys) := by
  refine ⟨fun ρ h H i S r hi => ⟨S.2.2, ?_⟩, fun ρ h H S r => ⟨S.2.2, ?_⟩, fun ρ h H i v x H' S r e y => ?_, fun ρ ρ' h h' H H' S r st => S.step r st, fun ρ h H D o o' S e n => S.lay e n⟩
  · rw [← (S.kr r).1.length]; simpa using hi
  · rw [← (S.kr r).1.length]; simp
  · obtain ⟨rfl, k, w, ek, rfl⟩ := y
    obtain ⟨⟨k', v'⟩, e1, rfl⟩ := map_get e
    obtain ⟨z, a1, a2⟩ := (S.kr r).1.get e1
    rw [a1] at ek; cases ek
    exact ⟨Stp.refl .., r, VR.key ((S.kr r).2.2 _ (List.mem_of_getElem? e1))⟩
theorem src_vals {a : Nat} {d : Addr} {od : Obj} {kvs : List (Key × Val)} {ys : List (Key × L2.V)} : SrcOk g (Itd d od ys) (kvs.map fun kv => kv.2) (DS a d od kvs ys) := by
  refine ⟨fun ρ h H i S r hi => ⟨S.2.2, ?_⟩, fun ρ h H S r => ⟨S.2.2, ?_⟩, fun ρ h H i v x H' S r e y => ?_, fun ρ ρ' h h' H H' S r st => S.step r st, fun ρ h H D o o' S e n => S.lay e n⟩
  · rw [← (S.kr r).1.length]; simpa using hi
  · rw [← (S.kr r).1.length]; simp
  · obtain ⟨rfl, k, ek⟩ := y
    obtain ⟨⟨k', v'⟩, e1, rfl⟩ := map_get e
    obtain ⟨z, a1, a2⟩ := (S.kr r).1.get e1
    rw [a1] at ek; cases ek
    exact ⟨Stp.refl .., r, a2⟩
theorem src_items {a : Nat} {d : Addr} {od : Obj} {kvs : List (Key × Val)} {ys : List (Key × L2.V)} : SrcOk g (Iti d od ys) (kvs.map fun kv => Val.tup [vKey kv.1, kv.2]) (DS a d od kvs ys) := by
  refine ⟨fun ρ h H i S r hi => ⟨S.2.2, ?_⟩, fun ρ h H S r => ⟨S.2.2, ?_⟩, fun ρ h H i v x H' S r e y => ?_, fun ρ ρ' h h' H H' S r st => S.step r st, fun ρ h H D o o' S e n => S.lay e n⟩
  · rw [← (S.kr r).1.length]; simpa using hi
  · rw [← (S.kr r).1.length]; simp
  · obtain ⟨T, k, w, ek, rfl, hT, rfl⟩ := y
    obtain ⟨⟨k', v'⟩, e1, rfl⟩ := map_get e
    obtain ⟨z, a1, a2⟩ := (S.kr r).1.get e1
    rw [a1] at ek; cases ek
    refine ⟨Stp.fresh r hT, r.fresh hT, ?_⟩
    rw [VR]
    refine ⟨T, _, rfl, ⟨.inl (.inl upd_same), fun z => nomatch z⟩, ?_⟩
    rw [VRs]
    refine ⟨_, _, rfl, VR.key ((S.kr r).2.2 _ (List.mem_of_getElem? e1)), ?_⟩
    rw [VRs]
    exact ⟨_, _, rfl, a2.step r (Stp.fresh r hT), by rw [VRs]⟩
/-- the value of e, locked if it is wanted -/
theorem pe_lockO {X : Cx} {e : Expr} {t : TE} (h : PE X e t) : PE X e (fun σ H Q => t σ H fun x H1 => (∃ d u, x = .ref d ∧ H1 d = some u ∧ Mut (some u) ∧ ∀ od, (∀ o' u', X.H_0 d ≠ some (.frz o' u')) → Q x (upd H1 d (.frz od u))) ∨ Q x H1) := by
  refine ⟨fun pins s σ H Q I hw => ?_⟩
  refine thn (h.run pins s σ H _ I hw) fun v s1 ⟨x, H1, I1, rx, q⟩ => ?_
  rcases q with ⟨d, u, rfl, hd, mu, q⟩ | q
  · obtain ⟨od, I2⟩ := I1.lock hd mu
    exact ⟨_, _, I2, rx, q od (I1.nofrz hd mu)⟩
  · exact ⟨x, H1, I1, rx, q⟩
def srcV (v : Val) (h : Heap) : Rs Src := match v with
  | .scr ns => .ok ⟨ns.map Val.int, none⟩ h
  | .tup xs => .ok ⟨xs, none⟩ h
  | .str z => .ok ⟨strV z, none⟩ h
  | .ref a => (match rd h a with
    | some (.lst xs) => .ok ⟨xs, some a⟩ h
    | some (.dct kvs) => .ok ⟨kvs.map fun kv => vKey kv.1, some a⟩ h
    | _ => .bad)
  | _ => .bad
theorem rd_cell {h : Heap} {a : Nat} {c : B} (e : rd h a = some c) : ∃ b, h[a]? = some (b, c) := by
  unfold rd at e
  cases z : h[a]? with
  | none => rw [z] at e; cases e
  | some p => obtain ⟨b, c'⟩ := p; rw [z] at e; cases e; exact ⟨b, rfl⟩
theorem lock_at {h : Heap} {a : Nat} {b : Bool} {c : B} (e : h[a]? = some (b, c)) : (lockH h (some a))[a]? = some (true, c) := by
  unfold lockH
  dsimp only
  rw [e]
  cases b with
  | false => exact List.getElem?_set_self (lt_of_get e)
  | true => exact e
/-- a dict at hand: locked, or now locked -/
theorem dict_lock {X : Cx} {ρ : Nat → Addr} {h : Heap} {H : Hp} (r : Rel g ρ h H) {a : Nat} {kvs : List (Key × Val)} (e : rd h a = some (.dct kvs)) {Q : Addr → Obj → List (Key × L2.V) → Hp → Prop}
    (k : ∀ od ys H2, LockR X ρ h H (some a) H2 → DS a (ρ a) od kvs ys ρ (lockH h (some a)) H2 → Q (ρ a) od ys H2) :
    (∃ u, H (ρ a) = some u ∧ Mut (some u) ∧ ∀ od, (∀ o' u', X.H_0 (ρ a) ≠ some (.frz o' u')) → ∃ ys, u = .dK ys ∧ Q (ρ a) od ys (upd H (ρ a) (.frz od u))) ∨ ∃ od ys, H (ρ a) = some (.frz od (.dK ys)) ∧ Q (ρ a) od ys H := by
  obtain ⟨b, z⟩ := rd_cell e
  cases b with
  | false =>
    obtain ⟨hl, xs, e1, e2⟩ := r.obj a false _ z
    refine .inl ⟨_, e1, True.intro, fun od nf => ⟨xs, rfl, ?_⟩⟩
    refine k od xs _ ?_ ⟨lock_at z, rfl, upd_same⟩
    unfold LockR
    dsimp only
    rw [z]
    exact ⟨od, xs, e1, nf, rfl⟩
  | true =>
    obtain ⟨hl, o, xs, e1, e2⟩ := r.obj a true _ z
    refine .inr ⟨o, xs, e1, ?_⟩
    refine k o xs _ ?_ ⟨lock_at z, rfl, e1⟩
    unfold LockR
    dsimp only
    rw [z]
theorem i_val {f : Fe} {tg e : Expr} (he : SoE g lv N sc f e) : SoI g lv N sc (fun env h => (f env h).bind srcV) tg e := by
  intro X W G ρ h H env σ R r er q
  have q1 := QI.bind (T := VR g) q
  cases z : f env h with
  | bad => rw [z] at q1; exact q1.elim
  | ex c fs h' =>
    refine (pi_list (self_e X e)).se ?_
    refine he X W G ρ h H env σ _ r er (QR.imp q1 fun x H1 ⟨ρ1, h1, v, s1, r1, t1, Ea, q2⟩ => ?_)
    rw [z] at Ea; cases Ea
  | ok v0 h0 =>
    cases v0 with
    | tup xs =>
      refine (pi_tup (self_e X e)).se ?_
      refine he X W G ρ h H env σ _ r er (QR.imp q1 fun x H1 ⟨ρ1, h1, v, s1, r1, t1, Ea, q2⟩ => ?_)
      rw [z] at Ea; cases Ea
      obtain ⟨a, ys, rfl, e1, e2⟩ := t1.of_tupA
      exact ⟨a, rfl, ⟨ys, by rw [G.hK]; exact e1.1⟩, q2 ρ1 H1 H1 _ _ (Stp.refl ..) r1 rfl (src_tup (ys := ys) G.hK) ⟨e1, e2⟩⟩
    | scr ns =>
      refine (pi_list (self_e X e)).se ?_
      refine he X W G ρ h H env σ _ r er (QR.imp q1 fun x H1 ⟨ρ1, h1, v, s1, r1, t1, Ea, q2⟩ => ?_)
      rw [z] at Ea; cases Ea
      rw [VR] at t1
      obtain ⟨a, rfl, e1⟩ := t1
      exact ⟨a, rfl, ⟨_, by rw [G.hK]; exact e1.sq⟩, q2 ρ1 H1 H1 _ _ (Stp.refl ..) r1 rfl (src_scr G.hK) e1⟩
    | str s =>
      refine (pi_str (self_e X e)).se ?_
      refine he X W G ρ h H env σ _ r er (QR.imp q1 fun x H1 ⟨ρ1, h1, v, s1, r1, t1, Ea, q2⟩ => ?_)
      rw [z] at Ea; cases Ea
      exact ⟨s, t1.of_str.1, q2 ρ1 H1 H1 _ _ (Stp.refl ..) r1 rfl src_str True.intro⟩
    | ref a =>
      cases zr : rd h0 a with
      | none =>
        have qq : QI g X W ρ h H σ (srcV (.ref a) h0) R := by have q' := q; simp only [z] at q'; exact q'
        simp only [srcV, zr] at qq
        exact qq.elim
      | some c =>
        cases c with
        | ins _ _ =>
          have qq : QI g X W ρ h H σ (srcV (.ref a) h0) R := by have q' := q; simp only [z] at q'; exact q'
          simp only [srcV, zr] at qq; exact qq.elim
        | lst xs =>
          refine (pi_list (self_e X e)).se ?_
          refine he X W G ρ h H env σ _ r er (QR.imp q1 fun x H1 ⟨ρ1, h1, v, s1, r1, t1, Ea, q2⟩ => ?_)
          rw [z] at Ea; cases Ea
          obtain ⟨ha, rfl⟩ := t1.of_ref
          obtain ⟨ys, e1, e2, _⟩ := r1.lst zr
          obtain ⟨b, zc⟩ := rd_cell zr
          simp only [srcV, zr] at q2
          refine ⟨_, rfl, ⟨ys, by rw [G.hK]; exact e1⟩, q2 ρ1 H1 H1 _ _ (Stp.refl ..) r1 ?_ (src_list G.hK) ⟨lock_at zc, rfl⟩⟩
          unfold LockR
          dsimp only
          rw [zc]
          cases b <;> rfl
        | dct kvs =>
          refine (pi_keys (pe_lockO (self_e X e))).se ?_
          refine he X W G ρ h H env σ _ r er (QR.imp q1 fun x H1 ⟨ρ1, h1, v, s1, r1, t1, Ea, q2⟩ => ?_)
          rw [z] at Ea; cases Ea
          obtain ⟨ha, rfl⟩ := t1.of_ref
          simp only [srcV, zr] at q2
          rcases dict_lock (X := X) (Q := fun d od ys H2 => R (Itk d od ys) H2) r1 zr (fun od ys H2 l S => q2 ρ1 H1 H2 _ _ (Stp.refl ..) r1 l src_keys S) with ⟨u, e1, mu, k⟩ | ⟨od, ys, e1, k⟩
          · refine .inl ⟨_, u, rfl, e1, mu, fun od nf => ?_⟩
            obtain ⟨ys, rfl, k⟩ := k od nf
            exact ⟨_, od, rfl, .inl ⟨ys, upd_same, k⟩⟩
          · exact .inr ⟨_, od, rfl, .inl ⟨ys, e1, k⟩⟩
    | _ =>
      have q' := q
      simp only [z] at q'
      exact (show False from q').elim
def srcI (v : Val) (h : Heap) : Rs Src := match v with
  | .ref a => (match rd h a with
    | some (.dct kvs) => .ok ⟨kvs.map fun kv => Val.tup [vKey kv.1, kv.2], some a⟩ h
    | _ => .bad)
  | _ => .bad
def srcW (v : Val) (h : Heap) : Rs Src := match v with
  | .ref a => (match rd h a with
    | some (.dct kvs) => .ok ⟨kvs.map fun kv => kv.2, some a⟩ h
    | _ => .bad)
  | _ => .bad
theorem i_items {f : Fe} {e : Expr} {elts : List Expr} {kk : Nat} {tpos apos cpos : Pos} (hb : noSuper e = true) (hl : (apos.endLine == cpos.line) = true) (he : SoE g lv N sc f e) :
    SoI g lv N sc (fun env h => (f env h).bind srcI) (.Tuple elts kk tpos) (.Call (.Attribute e "items" apos) [] [] cpos) := by
  intro X W G ρ h H env σ R r er q
  refine (pi_items (pe_lockO (self_e X e)) (base_plain hb _ X.env _) hl).se ?_
  refine he X W G ρ h H env σ _ r er (QR.imp (QI.bind (T := VR g) q) fun x H1 ⟨ρ1, h1, v, s1, r1, t1, _, q2⟩ => ?_)
  cases v with
  | ref a =>
    obtain ⟨ha, rfl⟩ := t1.of_ref
    cases zr : rd h1 a with
    | none => simp only [srcI, zr] at q2; exact q2.elim
    | some c =>
      cases c with
      | dct kvs =>
        simp only [srcI, zr] at q2
        rcases dict_lock (X := X) (Q := fun d od ys H2 => R (Iti d od ys) H2) r1 zr (fun od ys H2 l S => q2 ρ1 H1 H2 _ _ (Stp.refl ..) r1 l src_items S) with ⟨u, e1, mu, k⟩ | ⟨od, ys, e1, k⟩
        · refine .inl ⟨_, u, rfl, e1, mu, fun od nf => ?_⟩
          obtain ⟨ys, rfl, k⟩ := k od nf
          exact ⟨_, od, ys, rfl, upd_same, k⟩
        · exact .inr ⟨_, od, ys, rfl, e1, k⟩
      | lst _ => simp only [srcI, zr] at q2; exact q2.elim
      | ins _ _ => simp only [srcI, zr] at q2; exact q2.elim
  | _ => exact q2.elim
theorem i_vals {f : Fe} {tg e : Expr} {apos cpos : Pos} (hb : noSuper e = true) (hl : (apos.endLine == cpos.line) = true) (he : SoE g lv N sc f e) :
    SoI g lv N sc (fun env h => (f env h).bind srcW) tg (.Call (.Attribute e "values" apos) [] [] cpos) := by
  intro X W G ρ h H env σ R r er q
  refine (pi_values (pe_lockO (self_e X e)) (base_plain hb _ X.env _) hl).se ?_
  refine he X W G ρ h H env σ _ r er (QR.imp (QI.bind (T := VR g) q) fun x H1 ⟨ρ1, h1, v, s1, r1, t1, _, q2⟩ => ?_)
  cases v with
  | ref a =>
    obtain ⟨ha, rfl⟩ := t1.of_ref
    cases zr : rd h1 a with
    | none => simp only [srcW, zr] at q2; exact q2.elim
    | some c =>
      cases c with
      | dct kvs =>
        simp only [srcW, zr] at q2
        rcases dict_lock (X := X) (Q := fun d od ys H2 => R (Itd d od ys) H2) r1 zr (fun od ys H2 l S => q2 ρ1 H1 H2 _ _ (Stp.refl ..) r1 l src_vals S) with ⟨u, e1, mu, k⟩ | ⟨od, ys, e1, k⟩
        · refine .inl ⟨_, u, rfl, e1, mu, fun od nf => ?_⟩
          obtain ⟨ys, rfl, k⟩ := k od nf
          exact ⟨_, od, ys, rfl, upd_same, k⟩
        · exact .inr ⟨_, od, ys, rfl, e1, k⟩
      | lst _ => simp only [srcW, zr] at q2; exact q2.elim
      | ins _ _ => simp only [srcW, zr] at q2; exact q2.elim
  | _ => exact q2.elim
theorem i_rng1 {fs : Env → Heap → Rs (List Val)} {tg a : Expr} {p pos : Pos} (hx : sc.names.lookup ("range" : Str) = some .globalImplicit) (hm : g.mg "range" = none) (hs : isSt a = false) (ha : SoA g lv N sc fs [a]) :
    SoI g lv N sc (fun env h => (fs env h).bind fun vs h1 => match vs with
      | [.int j] => if -(2 ^ 62) ≤ j ∧ j < 2 ^ 62 then .ok ⟨rngV 0 j.toNat, none⟩ h1 else .bad
      | _ => .bad) tg (.Call (.Name "range" p) [a] [] pos) := by
  intro X W G ρ h H env σ R r er q
  refine (pi_range1 (G.gl hx) (by rw [G.hmg]; exact hm) (self_a X [a]) (starEach_plain hs [] X.env)).se ?_
  refine ha X W G ρ h H env σ _ r er (QR.imp (QI.bind (T := VRs g) q) fun x H1 ⟨ρ1, h1, v, s1, r1, t1, _, q2⟩ => ?_)
  split at q2
  · rename_i j _
    split at q2
    · rename_i hj
      rw [VRs] at t1
      obtain ⟨y, yr, rfl, t1, t2⟩ := t1
      rw [VRs] at t2
      subst t2
      cases t1.of_int
      exact ⟨j, rfl, hj.1, hj.2, q2 ρ1 H1 H1 _ _ (Stp.refl ..) r1 rfl src_rng True.intro⟩
    · exact q2.elim
  · exact q2.elim
theorem i_rng2 {fs : Env → Heap → Rs (List Val)} {tg a b : Expr} {p pos : Pos} (hx : sc.names.lookup ("range" : Str) = some .globalImplicit) (hm : g.mg "range" = none) (hs : isSt a = false) (hs2 : isSt b = false) (ha : SoA g lv N sc fs [a, b]) :
    SoI g lv N sc (fun env h => (fs env h).bind fun vs h1 => match vs with
      | [.int i, .int j] => if -(2 ^ 62) ≤ i ∧ i < 2 ^ 62 ∧ -(2 ^ 62) ≤ j ∧ j < 2 ^ 62 then .ok ⟨rngV i (j - i).toNat, none⟩ h1 else .bad
      | _ => .bad) tg (.Call (.Name "range" p) [a, b] [] pos) := by
  intro X W G ρ h H env σ R r er q
  refine (pi_range2 (G.gl hx) (by rw [G.hmg]; exact hm) (self_a X [a, b]) (by rw [starEach_plain hs, starEach_plain hs2]; rfl) (starEach_plain hs2 [] X.env)).se ?_
  refine ha X W G ρ h H env σ _ r er (QR.imp (QI.bind (T := VRs g) q) fun x H1 ⟨ρ1, h1, v, s1, r1, t1, _, q2⟩ => ?_)
  split at q2
  · rename_i i j _
    split at q2
    · rename_i hj
      rw [VRs] at t1
      obtain ⟨y, yr, rfl, t1, t2⟩ := t1
      rw [VRs] at t2
      obtain ⟨y2, yr2, rfl, t2, t3⟩ := t2
      rw [VRs] at t3
      subst t3
      cases t1.of_int
      cases t2.of_int
      exact ⟨i, j, rfl, hj, q2 ρ1 H1 H1 _ _ (Stp.refl ..) r1 rfl src_rng True.intro⟩
    · exact q2.elim
  · exact q2.elim
end
end MP
end
section
set_option autoImplicit false
set_option linter.all false
namespace MP
open PySem L2
section
variable {g : G} {lv : Nat} {N : List Str} {sc : Scope}
theorem relabel_scr (scope : Scope) (env : PySem.Env) : ScR (relabel scope env) scope := by
  intro x k e
  have key : ∀ (names : List (Str × NameKind)), names.lookup x = some k → (names.map fun (n, k) => if (k == NameKind.free && env.scope.kind == .function && env.kindOf n == some .cell) then (n, NameKind.cell) else (n, k)).lookup x = some k ∨ (k = .free ∧ (names.map fun (n, k) => if (k == NameKind.free && env.scope.kind == .function && env.kindOf n == some .cell) then (n, NameKind.cell) else (n, k)).lookup x = some .cell) := by
    intro names
    induction names with
    | nil => intro h; cases h
    | cons p r ih =>
      obtain ⟨n, kk⟩ := p
      intro h
      rw [List.lookup_cons] at h
      rw [List.map_cons]
      dsimp only
      cases hx : (x == n) with
      | true =>
        rw [hx] at h
        cases h
        by_cases hc : (k == NameKind.free && env.scope.kind == .function && env.kindOf n == some .cell) = true
        · rw [if_pos hc, List.lookup_cons, hx]
          refine .inr ⟨?_, rfl⟩
          simp only [Bool.and_eq_true] at hc
          exact eq_of_beq hc.1.1
        · rw [if_neg hc, List.lookup_cons, hx]
          exact .inl rfl
      | false =>
        rw [hx] at h
        by_cases hc : (kk == NameKind.free && env.scope.kind == .function && env.kindOf n == some .cell) = true
        · rw [if_pos hc, List.lookup_cons, hx]; exact ih h
        · rw [if_neg hc, List.lookup_cons, hx]; exact ih h
  exact key scope.names e
abbrev Bk (X : Cx) (scope : Scope) (s : Shared) (H : Hp) (C : Addr) (cl : List (Str × Addr)) (fp : List Addr) : Cx := X.blk s H scope (compEnvC scope cl C X.env) fp
theorem Good.blk {X : Cx} {W : WX} (G : Good g X N sc W lv) (scope : Scope) (s : Shared) (H : Hp) (C : Addr) (cl : List (Str × Addr)) (fp : List Addr) : Good g (Bk X scope s H C cl fp) N scope (fun _ _ _ _ => False) lv where
  hP := G.hP
  hw := G.hw
  hK := G.hK
  hmg := G.hmg
  hbase := G.hbase
  hN := G.hN
  nd := G.nd
  hsc := relabel_scr scope X.env
  calm := G.calm
  room := G.room
  tk := takes0
  pown := PassesOwn.never
  cell := fun x e => by show (scope.names.lookup x == some .cell) = true; rw [e]; rfl
theorem blk_ok {X : Cx} {W : WX} (G : Good g X N sc W lv) {scope : Scope} {own : List (Str × Nat)} (h : blkC N sc scope own = true) : BlkOk X.N X.env.scope scope own := by
  have b := blkOk_by h
  refine ⟨b.kind, b.uniq, by rw [G.hN]; exact b.ix, fun y hy e => ?_, fun y hy e => by rw [G.hN]; exact b.own y hy e⟩
  rcases b.free y hy e with q | q
  · exact .inl (G.hsc.same (by decide) q)
  · rcases G.hsc _ _ q with e1 | ⟨_, e1⟩
    · exact .inr e1
    · exact .inl e1
def wipeE (env : Env) : List Nat → Env
  | [] => env
  | v :: vs => (wipeE env vs).set v none
theorem wipe_er {ρ : Nat → Addr} {n : Nat} {H : Hp} {env : Env} {σ : L2.St} (e : ER g ρ n H env σ) : ∀ vs : List Nat, ER g ρ n H (wipeE env vs) (wipe σ vs)
  | [] => e
  | v :: vs => by
    have ih := wipe_er e vs
    refine ⟨by show ((wipeE env vs).set v none).length = ((wipe σ vs).set v none).length; rw [List.length_set, List.length_set]; exact ih.len, fun i w ew => ?_⟩
    rcases set_get (show ((wipeE env vs).set v none)[i]? = some (some w) from ew) with ⟨_, z⟩ | ⟨hi, z⟩
    · cases z
    · obtain ⟨x, a, b⟩ := ih.val i w z
      exact ⟨x, by show ((wipe σ vs).set v none)[i]? = _; rw [List.getElem?_set_ne (Ne.symm hi)]; exact a, b⟩
theorem wipe_get (σ : L2.St) : ∀ (vs : List Nat) (i : Nat), (wipe σ vs)[i]? = if i ∈ vs ∧ i < σ.length then some none else σ[i]?
  | [], i => by simp [wipe]
  | v :: vs, i => by
    show ((wipe σ vs).set v none)[i]? = _
    by_cases hi : i = v
    · subst hi
      by_cases hl : i < σ.length
      · rw [List.getElem?_set_self (by rw [wipe_length]; exact hl)]
        simp [hl]
      · rw [if_neg (by simp [hl])]
        rw [List.getElem?_eq_none (by rw [List.length_set, wipe_length]; omega), List.getElem?_eq_none (by omega)]
    · rw [List.getElem?_set_ne (Ne.symm hi), wipe_get σ vs i]
      simp [hi]
theorem wipe_same {σ σ2 : L2.St} {vs sl : List Nat} (hl : σ2.length = σ.length) (hs : ∀ i ∈ sl, i ∈ vs) (k : ∀ i, i ∉ sl → σ2[i]? = (wipe σ vs)[i]?) : wipe σ2 vs = wipe σ vs := by
  apply List.ext_getElem?
  intro i
  rw [wipe_get, wipe_get, hl]
  by_cases hv : i ∈ vs ∧ i < σ.length
  · rw [if_pos hv, if_pos hv]
  · rw [if_neg hv, if_neg hv]
    by_cases hi : i ∈ sl
    · have : ¬ i < σ.length := fun z => hv ⟨hs i hi, z⟩
      rw [List.getElem?_eq_none (by omega), List.getElem?_eq_none (by omega)]
    · rw [k i hi, wipe_get, if_neg hv]
theorem Stp.off {ρ ρ' : Nat → Addr} {h h' : Heap} {H H' : Hp} {D : Addr} {o : HO} (s : Stp ρ ρ' h h' H H') (hD : H D = none) : Stp ρ ρ' h h' H (upd H' D o) :=
  ⟨s.len, s.agr, s.new, fun b e => by
    by_cases hb : b = D
    · rw [hb]; exact hD
    · rw [upd_ne hb] at e; exact s.kep b e, fun b u e hn => by rw [upd_ne (ne_of_none e hD)]; exact s.frm b u e hn, s.lck⟩
def Off (ρ : Nat → Addr) (h : Heap) (D : Addr) : Prop := ∀ i, i < h.length → ρ i ≠ D
theorem Off.step {ρ ρ' : Nat → Addr} {h h' : Heap} {H H' : Hp} {D : Addr} {o : HO} (f : Off ρ h D) (e : H D = some o) (s : Stp ρ ρ' h h' H H') : Off ρ' h' D := fun i hi => by
  by_cases h1 : i < h.length
  · rw [s.agr i h1]; exact f i h1
  · exact (ne_of_none e (s.new i (by omega) hi)).symm
theorem Off.keep {ρ ρ' : Nat → Addr} {h h' : Heap} {H H' : Hp} {D : Addr} {o : HO} (f : Off ρ h D) (e : H D = some o) (s : Stp ρ ρ' h h' H H') : H' D = some o := s.frm D o e fun i c ei => f i (lt_of_get ei)
theorem Rel.off {ρ : Nat → Addr} {h : Heap} {H : Hp} {D : Addr} {o o' : HO} (r : Rel g ρ h H) (f : Off ρ h D) (e : H D = some o) (n : notTup o) : Rel g ρ h (upd H D o') :=
  ⟨r.inj, fun i b c ei => (r.obj i b c ei).mono (fun _ _ => rfl) (Nat.le_refl _) (off_seq e n) (upd_ne (f i (lt_of_get ei)))⟩
/-- .. becomes a cell's -/
theorem Rel.adopt {ρ : Nat → Addr} {h : Heap} {H : Hp} {D : Addr} {c : B} (r : Rel g ρ h H) (f : Off ρ h D) (ho : OR g (ext ρ h.length D) (h.length + 1) H D false c) : Rel g (ext ρ h.length D) (h ++ [(false, c)]) H := by
  refine ⟨fun i j hi hj e => ?_, fun i b c' e => ?_⟩
  · rw [List.length_append, List.length_singleton] at hi hj
    by_cases h1 : i = h.length
    · by_cases h2 : j = h.length
      · rw [h1, h2]
      · rw [h1, ext_new, ext_old ρ D (by omega)] at e
        exact absurd e.symm (f j (by omega))
    · by_cases h2 : j = h.length
      · rw [h2, ext_new, ext_old ρ D (by omega)] at e
        exact absurd e (f i (by omega))
      · rw [ext_old ρ D (by omega), ext_old ρ D (by omega)] at e
        exact r.inj i j (by omega) (by omega) e
  · rw [List.length_append, List.length_singleton]
    by_cases h1 : i < h.length
    · rw [List.getElem?_append_left h1] at e
      rw [ext_old ρ D h1]
      exact (r.obj i b c' e).mono (fun j hj => ext_old ρ D hj) (by omega) ⟨fun _ _ q => q, fun _ _ q => q, fun _ _ q => q⟩ rfl
    · have hl := lt_of_get e
      rw [List.length_append, List.length_singleton] at hl
      have : i = h.length := by omega
      subst this
      rw [List.getElem?_append_right (Nat.le_refl _), Nat.sub_self] at e
      cases e
      rw [ext_new]
      exact ho
theorem Stp.adopt {ρ ρ' : Nat → Addr} {h h' : Heap} {H H' : Hp} {D : Addr} {c : B} (s : Stp ρ ρ' h h' H H') (hD : H D = none) : Stp ρ (ext ρ' h'.length D) h (h' ++ [(false, c)]) H H' :=
  ⟨by rw [List.length_append]; exact Nat.le_trans s.len (Nat.le_add_right _ _), fun i hi => by rw [ext_old ρ' D (Nat.lt_of_lt_of_le hi s.len)]; exact s.agr i hi, fun i a b => by
    rw [List.length_append, List.length_singleton] at b
    by_cases hi : i = h'.length
    · rw [hi, ext_new]; exact hD
    · rw [ext_old ρ' D (by omega)]; exact s.new i a (by omega), s.kep, s.frm, fun i c e => by
    have := s.lck i c e
    rw [List.getElem?_append_left (lt_of_get this)]; exact this⟩
theorem se_unl {X : Cx} {e : Expr} {Q : VK} {σ : L2.St} {H : Hp} (h : SE X e σ H fun v H' => ∃ H4, UnlR X H' H4 ∧ Q v H4) : SE X e σ H Q := fun pins s I => by
  refine thn (h pins s I) fun v s1 ⟨x, H1, I1, rx, H4, u, q⟩ => ?_
  exact ⟨x, H4, inv_unl I1 u, rx, q⟩
theorem unl_off {X : Cx} {H H4 : Hp} {D : Addr} {o : HO} (u : UnlR X H H4) (e : H D = some o) (n : notTup o) : H4 D = some o := by
  rcases u with rfl | ⟨d, od, w, e1, _, rfl⟩
  · exact e
  · rw [upd_ne (by rintro rfl; rw [e] at e1; cases e1; exact n)]; exact e
def lcGo (f : Val → Heap → Rs (Option Val)) : List Val → List Val → Heap → Rs (List Val)
  | [], acc, h => .ok acc h
  | v :: r, acc, h => match f v h with
    | .ok (some y) h1 => lcGo f r (acc ++ [y]) h1
    | .ok none h1 => lcGo f r acc h1
    | _ => .bad
def lcTurn (ft : Fg) (fc : Env → Heap → Rs Bool) (fe : Fe) (env : Env) (v : Val) (h : Heap) : Rs (Option Val) :=
  (ft v env h).bind fun env2 h2 => (fc env2 h2).bind fun b h3 => if b then (fe env2 h3).bind fun y h4 => .ok (some y) h4 else .ok none h3
def eLc (fi : Fi) (ft : Fg) (fc : Env → Heap → Rs Bool) (fe : Fe) (own : List Nat) : Fe := fun env h => (fi env h).bind fun src h1 =>
  if src.xs.length ≤ lim then (lcGo (lcTurn ft fc fe (wipeE env own)) src.xs [] (lockH h1 src.lk)).bind fun ys h2 => al (unlockH h1 h2 src.lk) (.lst ys) else .bad
def SoTs (g : G) (lv : Nat) (N : List Str) (sc : Scope) (f : Env → Heap → Rs Bool) (ifs : List Expr) : Prop :=
  ∀ (X : Cx) (W : WX), Good g X N sc W lv → ∀ (ρ : Nat → Addr) (h : Heap) (H : Hp) (env : Env) (σ : L2.St) (Q : Bool → Hp → Prop), Rel g ρ h H → ER g ρ h.length H env σ → QR g (fun _ _ _ a b => a = b) W ρ h H σ (f env h) Q →
    ∀ (pins : List (Addr × Obj)) (s : Shared), Inv X pins σ H s → wpAny (model X.prog X.w) X.A (forIn ifs true fun c r => if r = true then do let ok ← PySem.isTrue c X.env (PySem.eval c X.env); pure (ForInStep.yield ok) else pure (ForInStep.yield r)) (TP X pins σ Q) X.xe s
theorem ts_nil : SoTs g lv N sc (fun _ h => .ok true h) [] := by
  intro X W G ρ h H env σ Q r er q pins s I
  exact pts_nil.run pins s σ H Q I (QR.ok (T := fun _ _ _ a b => a = b) r rfl q)
theorem ts_one {f : Env → Heap → Rs Bool} {c : Expr} (hc : SoT g lv N sc f c) : SoTs g lv N sc f [c] := by
  intro X W G ρ h H env σ Q r er q pins s I
  exact (pts_one (self_t X c)).run pins s σ H Q I (hc X W G ρ h H env σ Q r er q)
abbrev bG (X : Cx) (scope : Scope) (tg : Expr) : TG := fun x σ H Q => ∀ s H0 C cl fp, SG (Bk X scope s H0 C cl fp) tg x σ H Q
abbrev bT (X : Cx) (scope : Scope) (ifs : List Expr) : TT := fun σ H Q => ∀ s0 H0 C cl fp, ∀ (pins : List (Addr × Obj)) (s : Shared), Inv (Bk X scope s0 H0 C cl fp) pins σ H s → wpAny (model X.prog X.w) X.A (forIn ifs true fun c r => if r = true then do let ok ← PySem.isTrue c (Bk X scope s0 H0 C cl fp).env (PySem.eval c (Bk X scope s0 H0 C cl fp).env); pure (ForInStep.yield ok) else pure (ForInStep.yield r)) (TP (Bk X scope s0 H0 C cl fp) pins σ Q) (Bk X scope s0 H0 C cl fp).xe s
abbrev bE (X : Cx) (scope : Scope) (e : Expr) : TE := fun σ H Q => ∀ s H0 C cl fp, SE (Bk X scope s H0 C cl fp) e σ H Q
theorem bG_ok (X : Cx) (scope : Scope) (tg : Expr) : ∀ (s : Shared) (H : Hp) (C : Addr) (cl : List (Str × Addr)) (fp : List Addr), PG (X.blk s H scope (compEnvC scope cl C X.env) fp) tg (bG X scope tg) := fun s H C cl fp => ⟨fun pins s' σ H' v u Q I r k => k s H C cl fp pins s' u I r⟩
theorem bT_ok (X : Cx) (scope : Scope) (ifs : List Expr) : ∀ (s : Shared) (H : Hp) (C : Addr) (cl : List (Str × Addr)) (fp : List Addr), PTs (X.blk s H scope (compEnvC scope cl C X.env) fp) ifs (bT X scope ifs) := fun s H C cl fp => ⟨fun pins s' σ H' Q I k => k s H C cl fp pins s' I⟩
theorem bE_ok (X : Cx) (scope : Scope) (e : Expr) : ∀ (s : Shared) (H : Hp) (C : Addr) (cl : List (Str × Addr)) (fp : List Addr), PE (X.blk s H scope (compEnvC scope cl C X.env) fp) e (bE X scope e) := fun s H C cl fp => ⟨fun pins s' σ H' Q I k => k s H C cl fp pins s' I⟩
/-- the reading of a comprehension, whatever follows it -/
theorem lc_read {fi : Fi} {ft : Fg} {fc : Env → Heap → Rs Bool} {fe : Fe} {sl : List Nat} {own : List (Str × Nat)} {scope : Scope} {tg it elt : Expr} {ifs : List Expr} (hsl : ∀ i ∈ sl, i ∈ own.map (·.2)) (hx : ∀ v env h c fs h', ft v env h ≠ .ex c fs h')
    (hi : SoI g lv N sc fi tg it) (ht : SoG g lv N scope sl ft tg) (hc : SoTs g lv N scope fc ifs) (he : SoE g lv N scope fe elt)
    {X : Cx} {W : WX} (G : Good g X N sc W lv) {ρ : Nat → Addr} {h : Heap} {H : Hp} {env : Env} {σ : L2.St} {Q : VK} (r : Rel g ρ h H) (er : ER g ρ h.length H env σ) (q : QR g (VR g) W ρ h H σ (eLc fi ft fc fe (own.map (·.2)) env h) Q) :
    tLc (SI X tg it) (bG X scope tg) (bT X scope ifs) (bE X scope elt) (own.map (·.2)) σ H (fun v H' => ∃ H4, UnlR X H' H4 ∧ Q v H4) := by
  refine hi X W G ρ h H env σ _ r er ?_
  have q' : QR g (VR g) W ρ h H σ ((fi env h).bind fun src h1 => if src.xs.length ≤ lim then (lcGo (lcTurn ft fc fe (wipeE env (own.map (·.2)))) src.xs [] (lockH h1 src.lk)).bind fun ys h2 => al (unlockH h1 h2 src.lk) (.lst ys) else .bad) Q := q
  cases z : fi env h with
  | bad => rw [z] at q'; exact q'
  | ex c fs h' => rw [z] at q'; exact q'
  | ok src h1 =>
    rw [z] at q'
    obtain ⟨xs, lk⟩ := src
    intro ρ1 H1 H2 J S s1 r1 lr J1 S1 D hD
    dsimp only at lr J1 S1
    obtain ⟨ls, r2⟩ := lock_step r1 lr
    have q1 : QR g (VR g) W ρ1 h1 H1 σ (if xs.length ≤ lim then (lcGo (lcTurn ft fc fe (wipeE env (own.map (·.2)))) xs [] (lockH h1 lk)).bind fun ys h2 => al (unlockH h1 h2 lk) (.lst ys) else .bad) Q := QR.step s1 q'
    by_cases hlim : xs.length ≤ lim
    · rw [if_pos hlim] at q1
      have er2 := wipe_er ((er.step r s1).step r1 ls) (own.map (·.2))
      generalize hf : lcTurn ft fc fe (wipeE env (own.map (·.2))) = f at q1
      generalize hL : lockH h1 lk = hl at q1 ls r2 er2 S1
      have offD : Off ρ1 hl D := fun i hi => by
        cases zi : hl[i]? with
        | none => exact absurd (List.getElem?_eq_none_iff.mp zi) (by omega)
        | some c => obtain ⟨u, hu⟩ := r2.trk (b := c.1) (c := c.2) zi; exact ne_of_none hu hD
      refine ⟨fun i m H' => m = xs.length - i ∧ i ≤ xs.length ∧ ∃ ρ' h' ys acc, Stp ρ1 ρ' hl h' H2 H' ∧ Rel g ρ' h' H' ∧ Off ρ' h' D ∧ H' D = some (.lst acc) ∧ VRs g ρ' h'.length H' ys acc ∧ ys.length ≤ i ∧ lcGo f xs [] hl = lcGo f (xs.drop i) ys h',
        ⟨xs.length, rfl, Nat.zero_le _, ρ1, hl, [], [], Stp.fresh r2 hD, r2.fresh hD, offD, upd_same, by rw [VRs], Nat.le_refl _, rfl⟩, ?_⟩
      rintro i m H' ⟨rfl, hi', ρ', h', ys, acc, st, rl, off, eD, vac, hyl, eq⟩
      have S' := J1.step _ _ _ _ _ _ S1 r2 st
      by_cases hlt : i < xs.length
      · have hget : xs[i]? = some xs[i] := by simp [hlt]
        have hdrop : xs.drop i = xs[i] :: xs.drop (i + 1) := List.drop_eq_getElem_cons hlt
        rw [hdrop] at eq
        simp only [lcGo] at eq
        refine .inr ⟨J1.go ρ' h' H' i S' rl hlt, fun H'' => ∃ m', m' < xs.length - i ∧ (m' = xs.length - (i + 1) ∧ i + 1 ≤ xs.length ∧ ∃ ρ' h' ys acc, Stp ρ1 ρ' hl h' H2 H'' ∧ Rel g ρ' h' H'' ∧ Off ρ' h' D ∧ H'' D = some (.lst acc) ∧ VRs g ρ' h'.length H'' ys acc ∧ ys.length ≤ i + 1 ∧ lcGo f xs [] hl = lcGo f (xs.drop (i + 1)) ys h'), fun H'' z => z, fun x H'' y => ?_⟩
        obtain ⟨sy, ry, vy⟩ := J1.yld ρ' h' H' i xs[i] x H'' S' rl hget y
        have eDy := off.keep eD sy
        have offy := off.step eD sy
        -- the turn of the evaluator
        have hft : f xs[i] h' = lcTurn ft fc fe (wipeE env (own.map (·.2))) xs[i] h' := by rw [hf]
        have badc : f xs[i] h' = .bad → False := fun zb => by rw [zb] at eq; rw [eq] at q1; exact q1
        have exc : ∀ c fs h'', f xs[i] h' = .ex c fs h'' → False := fun c fs h'' zb => by rw [zb] at eq; rw [eq] at q1; exact q1
        intro s0 H0 C cl fp
        have ery : ER g ρ' h'.length H'' (wipeE env (own.map (·.2))) (wipe σ (own.map (·.2))) := (er2.step r2 st).step rl sy
        refine ht _ _ (G.blk scope s0 H0 C cl fp) ρ' h' H'' _ _ xs[i] x _ ry ery vy ?_
        cases zt : ft xs[i] (wipeE env (own.map (·.2))) h' with
        | bad => exact badc (by rw [hft]; unfold lcTurn; rw [zt]; rfl)
        | ex c fs h'' => exact absurd zt (hx _ _ _ _ _ _)
        | ok env2 h2 =>
          intro ρ2 Ha σ2 st2 rl2 era k2
          refine ⟨wipe_same (k2.1.trans (wipe_length _ _)) hsl k2.2, ?_⟩
          intro s0 H0 C cl fp pins s I
          refine hc _ _ (G.blk scope s0 H0 C cl fp) ρ2 h2 Ha env2 σ2 _ rl2 era ?_ pins s I
          have eDa := offy.keep eDy st2
          have offa := offy.step eDy st2
          cases zc : fc env2 h2 with
          | bad => exact badc (by rw [hft]; unfold lcTurn; rw [zt]; show ((fc env2 h2).bind _) = _; rw [zc]; rfl)
          | ex c fs h'' => exact False.elim <| exc c fs h'' (by rw [hft]; unfold lcTurn; rw [zt]; show ((fc env2 h2).bind _) = _; rw [zc]; rfl)
          | ok b h3 =>
            intro ρ3 Hb b' st3 rl3 hbb
            cases hbb
            have eDb := offa.keep eDa st3
            have offb := offa.step eDa st3
            have stb : Stp ρ1 ρ3 hl h3 H2 Hb := ((st.trans sy).trans st2).trans st3
            cases b with
            | false =>
              have ez : f xs[i] h' = .ok none h3 := by rw [hft]; unfold lcTurn; rw [zt]; show ((fc env2 h2).bind _) = _; rw [zc]; rfl
              rw [ez] at eq
              exact ⟨xs.length - (i + 1), by omega, rfl, hlt, ρ3, h3, ys, acc, stb, rl3, offb, eDb, ((vac.step rl sy).step ry st2).step rl2 st3, by omega, eq⟩
            | true =>
              intro s0 H0 C cl fp
              refine he _ _ (G.blk scope s0 H0 C cl fp) ρ3 h3 Hb env2 σ2 _ rl3 (era.step rl2 st3) ?_
              cases ze : fe env2 h3 with
              | bad => exact badc (by rw [hft]; unfold lcTurn; rw [zt]; show ((fc env2 h2).bind _) = _; rw [zc]; show ((fe env2 h3).bind _) = _; rw [ze]; rfl)
              | ex c fs h'' => exact False.elim <| exc c fs h'' (by rw [hft]; unfold lcTurn; rw [zt]; show ((fc env2 h2).bind _) = _; rw [zc]; show ((fe env2 h3).bind _) = _; rw [ze]; rfl)
              | ok yv h4 =>
                have ez : f xs[i] h' = .ok (some yv) h4 := by rw [hft]; unfold lcTurn; rw [zt]; show ((fc env2 h2).bind _) = _; rw [zc]; show ((fe env2 h3).bind _) = _; rw [ze]; rfl
                rw [ez] at eq
                intro ρ4 Hc y4 st4 rl4 vy4
                have eDc := offb.keep eDb st4
                have offc := offb.step eDb st4
                have vac4 := (((vac.step rl sy).step ry st2).step rl2 st3).step rl3 st4
                refine ⟨acc, eDc, ?_, xs.length - (i + 1), by omega, rfl, hlt, ρ4, h4, ys ++ [yv], acc ++ [y4], (stb.trans st4).off hD, rl4.off offc eDc True.intro, offc, upd_same, ?_, by rw [List.length_append, List.length_singleton]; omega, eq⟩
                · rw [← vac.length]
                  exact Nat.lt_of_lt_of_le (Nat.lt_of_le_of_lt hyl hlt) (lim_le hlim)
                · refine VRs.append (vac4.mono (fun _ _ => rfl) (Nat.le_refl _) (off_seq eDc True.intro)) ?_
                  rw [VRs]
                  exact ⟨_, _, rfl, vy4.mono (fun _ _ => rfl) (Nat.le_refl _) (off_seq eDc True.intro), by rw [VRs]⟩
      · have e : i = xs.length := by omega
        subst e
        refine .inl ⟨J1.stop ρ' h' H' S' rl, ?_⟩
        rw [List.drop_length] at eq
        rw [eq] at q1
        rw [← hL] at st
        obtain ⟨H4, u, st4, r4, sq⟩ := unlock_step r1 lr st rl
        have hD1 : H1 D = none := ls.kep D hD
        have eD4 := unl_off u eD True.intro
        refine ⟨H4, u, ?_⟩
        have q2 : QR g (VR g) W ρ1 h1 H1 σ (al (unlockH h1 h' lk) (.lst ys)) Q := q1
        have off4 : Off ρ' (unlockH h1 h' lk) D := fun i hi => off i (by rw [unlock_len] at hi; exact hi)
        refine q2 _ H4 _ (st4.adopt hD1) (r4.adopt off4 ⟨?_, acc, eD4, ?_⟩) ?_
        · exact Nat.le_trans hyl (lim_le hlim)
        · exact vac.mono (fun j hj => ext_old ρ' D (by rw [unlock_len]; exact hj)) (by rw [unlock_len]; omega) sq
        · rw [VR]
          exact ⟨by simp, by rw [ext_new]⟩
    · rw [if_neg hlim] at q1; exact q1.elim
theorem so_lc {fi : Fi} {ft : Fg} {fc : Env → Heap → Rs Bool} {fe : Fe} {sl : List Nat} {own : List (Str × Nat)} {scope : Scope} {tg it elt : Expr} {ifs : List Expr} {pos : Pos} (hs : isSet it = false) (hbk : blkC N sc scope own = true) (hsl : ∀ i ∈ sl, i ∈ own.map (·.2)) (hx : ∀ v env h c fs h', ft v env h ≠ .ex c fs h')
    (hi : SoI g lv N sc fi tg it) (ht : SoG g lv N scope sl ft tg) (hc : SoTs g lv N scope fc ifs) (he : SoE g lv N scope fe elt) : SoE g lv N sc (eLc fi ft fc fe (own.map (·.2))) (.ListComp elt [⟨tg, it, ifs, 0⟩] scope pos) := by
  intro X W G ρ h H env σ Q r er q
  refine se_unl ?_
  exact (pe_lc G.calm G.nd (self_i X tg it) (blk_ok G hbk) (bG_ok X scope tg) (bT_ok X scope ifs) (bE_ok X scope elt) (folded_no hs X.env)).se (lc_read hsl hx hi ht hc he G r er q)
/-- y = [..], stored at once -/
theorem s_setLc {fi : Fi} {ft : Fg} {fc : Env → Heap → Rs Bool} {fe : Fe} {sl : List Nat} {own : List (Str × Nat)} {scope : Scope} {tg it elt : Expr} {ifs : List Expr} {i : Nat} {y : Str} {py pos spos : Pos} (hy : N[i]? = some y) (hyl : sc.names.lookup y = some .local)
    (hsw : ∀ env : PySem.Env, ScR env.scope sc → env.scope.kind = .function → swapsWith (.ListComp elt [⟨tg, it, ifs, 0⟩] scope pos) (some (.Name y py)) spos.line env = pure true)
    (hs : isSet it = false) (hbk : blkC N sc scope own = true) (hsl : ∀ i ∈ sl, i ∈ own.map (·.2)) (hx : ∀ v env h c fs h', ft v env h ≠ .ex c fs h')
    (hi : SoI g lv N sc fi tg it) (ht : SoG g lv N scope sl ft tg) (hc : SoTs g lv N scope fc ifs) (he : SoE g lv N scope fe elt) :
    SoS g lv N sc (fun env h => liftS (eLc fi ft fc fe (own.map (·.2)) env h) env fun v h1 => .nx (env.set i (some v)) h1) (.Assign [.Name y py] (.ListComp elt [⟨tg, it, ifs, 0⟩] scope pos) spos) := by
  intro X W G ρ h H env σ D r er q pins s I
  refine ss_unl (D := D) ?_ pins s I
  have q1 := QS.lift (T := VR g) (σ := σ) r er q
  have q2 : QR g (VR g) W ρ h H σ (eLc fi ft fc fe (own.map (·.2)) env h) (fun v H' => D.nx (σ.set i (some v)) H') := QR.imp q1 fun v H' ⟨ρ1, h1, v', s1, r1, t1, _, q1⟩ => q1 ρ1 H' _ (Stp.refl ..) r1 ((er.step r s1).set t1)
  have z := lc_read (own := own) hsl hx hi ht hc he G r er q2
  refine (ps_setLc (i := i) G.calm G.nd (by rw [G.hN]; exact hy) (G.hsc.same (by decide) hyl) (hsw X.env G.hsc I.ok.kind) (self_i X tg it) (blk_ok G hbk) (bG_ok X scope tg) (bT_ok X scope ifs) (bE_ok X scope elt) (folded_no hs X.env)).se (D := unlD X D) ?_
  exact z
end
end MP
end
section
set_option autoImplicit false
set_option linter.all false
namespace MP
open PySem L2
section
variable {g : G} {lv : Nat} {N : List Str} {sc : Scope}
def dcGo (f : Val → Heap → Rs (Option (Key × Val))) : List Val → List (Key × Val) → Heap → Rs (List (Key × Val))
  | [], acc, h => .ok acc h
  | v :: r, acc, h => match f v h with
    | .ok (some p) h1 => dcGo f r (setK acc p.1 p.2) h1
    | .ok none h1 => dcGo f r acc h1
    | _ => .bad
def dcTurn (ft : Fg) (fc : Env → Heap → Rs Bool) (fk fe : Fe) (env : Env) (v : Val) (h : Heap) : Rs (Option (Key × Val)) :=
  (ft v env h).bind fun env2 h2 => (fc env2 h2).bind fun b h3 => if b then (fk env2 h3).bind fun k h4 => (fe env2 h4).bind fun y h5 => (match keyV k with
    | some k => .ok (some (k, y)) h5
    | none => .bad) else .ok none h3
def eDc (fi : Fi) (ft : Fg) (fc : Env → Heap → Rs Bool) (fk fe : Fe) (own : List Nat) : Fe := fun env h => (fi env h).bind fun src h1 =>
  if src.xs.length ≤ lim then (dcGo (dcTurn ft fc fk fe (wipeE env own)) src.xs [] (lockH h1 src.lk)).bind fun ys h2 => al (unlockH h1 h2 src.lk) (.dct ys) else .bad
/-- the reading of a comprehension, whatever follows it -/
theorem dc_read {fi : Fi} {ft : Fg} {fc : Env → Heap → Rs Bool} {fk fe : Fe} {sl : List Nat} {own : List (Str × Nat)} {scope : Scope} {tg it kx elt : Expr} {ifs : List Expr} (hsl : ∀ i ∈ sl, i ∈ own.map (·.2)) (hx : ∀ v env h c fs h', ft v env h ≠ .ex c fs h')
    (hi : SoI g lv N sc fi tg it) (ht : SoG g lv N scope sl ft tg) (hc : SoTs g lv N scope fc ifs) (hk : SoE g lv N scope fk kx) (he : SoE g lv N scope fe elt)
    {X : Cx} {W : WX} (G : Good g X N sc W lv) {ρ : Nat → Addr} {h : Heap} {H : Hp} {env : Env} {σ : L2.St} {Q : VK} (r : Rel g ρ h H) (er : ER g ρ h.length H env σ) (q : QR g (VR g) W ρ h H σ (eDc fi ft fc fk fe (own.map (·.2)) env h) Q) :
    tDc (SI X tg it) (bG X scope tg) (bT X scope ifs) (bE X scope kx) (bE X scope elt) (own.map (·.2)) σ H (fun v H' => ∃ H4, UnlR X H' H4 ∧ Q v H4) := by
  refine hi X W G ρ h H env σ _ r er ?_
  have q' : QR g (VR g) W ρ h H σ ((fi env h).bind fun src h1 => if src.xs.length ≤ lim then (dcGo (dcTurn ft fc fk fe (wipeE env (own.map (·.2)))) src.xs [] (lockH h1 src.lk)).bind fun ys h2 => al (unlockH h1 h2 src.lk) (.dct ys) else .bad) Q := q
  cases z : fi env h with
  | bad => rw [z] at q'; exact q'
  | ex c fs h' => rw [z] at q'; exact q'
  | ok src h1 =>
    rw [z] at q'
    obtain ⟨xs, lk⟩ := src
    intro ρ1 H1 H2 J S s1 r1 lr J1 S1 D hD
    dsimp only at lr J1 S1
    obtain ⟨ls, r2⟩ := lock_step r1 lr
    have q1 : QR g (VR g) W ρ1 h1 H1 σ (if xs.length ≤ lim then (dcGo (dcTurn ft fc fk fe (wipeE env (own.map (·.2)))) xs [] (lockH h1 lk)).bind fun ys h2 => al (unlockH h1 h2 lk) (.dct ys) else .bad) Q := QR.step s1 q'
    by_cases hlim : xs.length ≤ lim
    · rw [if_pos hlim] at q1
      have er2 := wipe_er ((er.step r s1).step r1 ls) (own.map (·.2))
      generalize hf : dcTurn ft fc fk fe (wipeE env (own.map (·.2))) = f at q1
      generalize hL : lockH h1 lk = hl at q1 ls r2 er2 S1
      have offD : Off ρ1 hl D := fun i hi => by
        cases zi : hl[i]? with
        | none => exact absurd (List.getElem?_eq_none_iff.mp zi) (by omega)
        | some c => obtain ⟨u, hu⟩ := r2.trk (b := c.1) (c := c.2) zi; exact ne_of_none hu hD
      refine ⟨fun i m H' => m = xs.length - i ∧ i ≤ xs.length ∧ ∃ ρ' h' ys acc, Stp ρ1 ρ' hl h' H2 H' ∧ Rel g ρ' h' H' ∧ Off ρ' h' D ∧ H' D = some (.dK acc) ∧ KR g ρ' h'.length H' ys acc ∧ (∀ p ∈ ys, KOk p.1) ∧ ys.length ≤ i ∧ dcGo f xs [] hl = dcGo f (xs.drop i) ys h',
        ⟨xs.length, rfl, Nat.zero_le _, ρ1, hl, [], [], Stp.fresh r2 hD, r2.fresh hD, offD, upd_same, by rw [KR], (fun p hp => absurd hp (by simp)), Nat.le_refl _, rfl⟩, ?_⟩
      rintro i m H' ⟨rfl, hi', ρ', h', ys, acc, st, rl, off, eD, vac, vko, hyl, eq⟩
      have S' := J1.step _ _ _ _ _ _ S1 r2 st
      by_cases hlt : i < xs.length
      · have hget : xs[i]? = some xs[i] := by simp [hlt]
        have hdrop : xs.drop i = xs[i] :: xs.drop (i + 1) := List.drop_eq_getElem_cons hlt
        rw [hdrop] at eq
        simp only [dcGo] at eq
        refine .inr ⟨J1.go ρ' h' H' i S' rl hlt, fun H'' => ∃ m', m' < xs.length - i ∧ (m' = xs.length - (i + 1) ∧ i + 1 ≤ xs.length ∧ ∃ ρ' h' ys acc, Stp ρ1 ρ' hl h' H2 H'' ∧ Rel g ρ' h' H'' ∧ Off ρ' h' D ∧ H'' D = some (.dK acc) ∧ KR g ρ' h'.length H'' ys acc ∧ (∀ p ∈ ys, KOk p.1) ∧ ys.length ≤ i + 1 ∧ dcGo f xs [] hl = dcGo f (xs.drop (i + 1)) ys h'), fun H'' z => z, fun x H'' y => ?_⟩
        obtain ⟨sy, ry, vy⟩ := J1.yld ρ' h' H' i xs[i] x H'' S' rl hget y
        have eDy := off.keep eD sy
        have offy := off.step eD sy
        -- the turn of the evaluator
        have hft : f xs[i] h' = dcTurn ft fc fk fe (wipeE env (own.map (·.2))) xs[i] h' := by rw [hf]
        have badc : f xs[i] h' = .bad → False := fun zb => by rw [zb] at eq; rw [eq] at q1; exact q1
        have exc : ∀ c fs h'', f xs[i] h' = .ex c fs h'' → False := fun c fs h'' zb => by rw [zb] at eq; rw [eq] at q1; exact q1
        intro s0 H0 C cl fp
        have ery : ER g ρ' h'.length H'' (wipeE env (own.map (·.2))) (wipe σ (own.map (·.2))) := (er2.step r2 st).step rl sy
        refine ht _ _ (G.blk scope s0 H0 C cl fp) ρ' h' H'' _ _ xs[i] x _ ry ery vy ?_
        cases zt : ft xs[i] (wipeE env (own.map (·.2))) h' with
        | bad => exact badc (by rw [hft]; unfold dcTurn; rw [zt]; rfl)
        | ex c fs h'' => exact absurd zt (hx _ _ _ _ _ _)
        | ok env2 h2 =>
          intro ρ2 Ha σ2 st2 rl2 era k2
          refine ⟨wipe_same (k2.1.trans (wipe_length _ _)) hsl k2.2, ?_⟩
          intro s0 H0 C cl fp pins s I
          refine hc _ _ (G.blk scope s0 H0 C cl fp) ρ2 h2 Ha env2 σ2 _ rl2 era ?_ pins s I
          have eDa := offy.keep eDy st2
          have offa := offy.step eDy st2
          cases zc : fc env2 h2 with
          | bad => exact badc (by rw [hft]; unfold dcTurn; rw [zt]; show ((fc env2 h2).bind _) = _; rw [zc]; rfl)
          | ex c fs h'' => exact False.elim <| exc c fs h'' (by rw [hft]; unfold dcTurn; rw [zt]; show ((fc env2 h2).bind _) = _; rw [zc]; rfl)
          | ok b h3 =>
            intro ρ3 Hb b' st3 rl3 hbb
            cases hbb
            have eDb := offa.keep eDa st3
            have offb := offa.step eDa st3
            have stb : Stp ρ1 ρ3 hl h3 H2 Hb := ((st.trans sy).trans st2).trans st3
            cases b with
            | false =>
              have ez : f xs[i] h' = .ok none h3 := by rw [hft]; unfold dcTurn; rw [zt]; show ((fc env2 h2).bind _) = _; rw [zc]; rfl
              rw [ez] at eq
              exact ⟨xs.length - (i + 1), by omega, rfl, hlt, ρ3, h3, ys, acc, stb, rl3, offb, eDb, ((vac.step rl sy).step ry st2).step rl2 st3, vko, by omega, eq⟩
            | true =>
              intro s0 H0 C cl fp
              refine hk _ _ (G.blk scope s0 H0 C cl fp) ρ3 h3 Hb env2 σ2 _ rl3 (era.step rl2 st3) ?_
              cases zk : fk env2 h3 with
              | bad => exact badc (by rw [hft]; unfold dcTurn; rw [zt]; show ((fc env2 h2).bind _) = _; rw [zc]; show ((fk env2 h3).bind _) = _; rw [zk]; rfl)
              | ex c fs h'' => exact False.elim <| exc c fs h'' (by rw [hft]; unfold dcTurn; rw [zt]; show ((fc env2 h2).bind _) = _; rw [zc]; show ((fk env2 h3).bind _) = _; rw [zk]; rfl)
              | ok kv h4 =>
                intro ρ4 Hc k4 st4 rl4 vk4
                have eDc := offb.keep eDb st4
                have offc := offb.step eDb st4
                intro s0 H0 C cl fp
                refine he _ _ (G.blk scope s0 H0 C cl fp) ρ4 h4 Hc env2 σ2 _ rl4 ((era.step rl2 st3).step rl3 st4) ?_
                cases ze : fe env2 h4 with
                | bad => exact badc (by rw [hft]; unfold dcTurn; rw [zt]; show ((fc env2 h2).bind _) = _; rw [zc]; show ((fk env2 h3).bind _) = _; rw [zk]; show ((fe env2 h4).bind _) = _; rw [ze]; rfl)
                | ex c fs h'' => exact False.elim <| exc c fs h'' (by rw [hft]; unfold dcTurn; rw [zt]; show ((fc env2 h2).bind _) = _; rw [zc]; show ((fk env2 h3).bind _) = _; rw [zk]; show ((fe env2 h4).bind _) = _; rw [ze]; rfl)
                | ok yv h5 =>
                  cases zkk : keyV kv with
                  | none => exact False.elim <| badc (by rw [hft]; unfold dcTurn; rw [zt]; show ((fc env2 h2).bind _) = _; rw [zc]; show ((fk env2 h3).bind _) = _; rw [zk]; show ((fe env2 h4).bind _) = _; rw [ze]; show (match keyV kv with | some k => Rs.ok (some (k, yv)) h5 | none => .bad) = _; rw [zkk])
                  | some k =>
                    have ez : f xs[i] h' = .ok (some (k, yv)) h5 := by rw [hft]; unfold dcTurn; rw [zt]; show ((fc env2 h2).bind _) = _; rw [zc]; show ((fk env2 h3).bind _) = _; rw [zk]; show ((fe env2 h4).bind _) = _; rw [ze]; show (match keyV kv with | some k => Rs.ok (some (k, yv)) h5 | none => .bad) = _; rw [zkk]
                    rw [ez] at eq
                    intro ρ5 Hd y5 st5 rl5 vy5
                    have eDd := offc.keep eDc st5
                    have offd := offc.step eDc st5
                    have vac5 := ((((vac.step rl sy).step ry st2).step rl2 st3).step rl3 st4).step rl4 st5
                    have hkok : KOk k := keyV_kok zkk vk4
                    have hlen : acc.length < sizeLine := by
                      rw [← vac.length]
                      exact Nat.lt_of_lt_of_le (Nat.lt_of_le_of_lt hyl hlt) (lim_le hlim)
                    refine ⟨acc, k, keyV_ok zkk vk4, eDd, hlen, xs.length - (i + 1), by omega, rfl, hlt, ρ5, h5, setK ys k yv, putK acc k y5, ((stb.trans st4).trans st5).off hD, rl5.off offd eDd True.intro, offd, upd_same, ?_, ?_, ?_, eq⟩
                    · exact KR.put (vy5.mono (fun _ _ => rfl) (Nat.le_refl _) (off_seq eDd True.intro)) (vac5.mono (fun _ _ => rfl) (Nat.le_refl _) (off_seq eDd True.intro))
                    · intro p hp
                      unfold setK at hp
                      split at hp
                      · obtain ⟨q, hq, e⟩ := List.mem_map.mp hp
                        split at e <;> (rw [← e]; exact vko q hq)
                      · rcases List.mem_append.mp hp with hp | hp
                        · exact vko p hp
                        · rw [List.mem_singleton.mp hp]; exact hkok
                    · exact Nat.le_trans (setK_length ys k yv) (by omega)
      · have e : i = xs.length := by omega
        subst e
        refine .inl ⟨J1.stop ρ' h' H' S' rl, ?_⟩
        rw [List.drop_length] at eq
        rw [eq] at q1
        rw [← hL] at st
        obtain ⟨H4, u, st4, r4, sq⟩ := unlock_step r1 lr st rl
        have hD1 : H1 D = none := ls.kep D hD
        have eD4 := unl_off u eD True.intro
        refine ⟨H4, u, ?_⟩
        have q2 : QR g (VR g) W ρ1 h1 H1 σ (al (unlockH h1 h' lk) (.dct ys)) Q := q1
        have off4 : Off ρ' (unlockH h1 h' lk) D := fun i hi => off i (by rw [unlock_len] at hi; exact hi)
        refine q2 _ H4 _ (st4.adopt hD1) (r4.adopt off4 ⟨⟨?_, vko⟩, acc, eD4, ?_⟩) ?_
        · exact Nat.le_trans hyl (lim_le hlim)
        · exact vac.mono (fun j hj => ext_old ρ' D (by rw [unlock_len]; exact hj)) (by rw [unlock_len]; omega) sq
        · rw [VR]
          exact ⟨by simp, by rw [ext_new]⟩
    · rw [if_neg hlim] at q1; exact q1.elim
theorem so_dc {fi : Fi} {ft : Fg} {fc : Env → Heap → Rs Bool} {fk fe : Fe} {sl : List Nat} {own : List (Str × Nat)} {scope : Scope} {tg it kx elt : Expr} {ifs : List Expr} {pos : Pos} (hs : isSet it = false) (hbk : blkC N sc scope own = true) (hsl : ∀ i ∈ sl, i ∈ own.map (·.2)) (hx : ∀ v env h c fs h', ft v env h ≠ .ex c fs h')
    (hi : SoI g lv N sc fi tg it) (ht : SoG g lv N scope sl ft tg) (hc : SoTs g lv N scope fc ifs) (hk : SoE g lv N scope fk kx) (he : SoE g lv N scope fe elt) : SoE g lv N sc (eDc fi ft fc fk fe (own.map (·.2))) (.DictComp kx elt [⟨tg, it, ifs, 0⟩] scope pos) := by
  intro X W G ρ h H env σ Q r er q
  refine se_unl ?_
  exact (pe_dc G.calm G.nd (self_i X tg it) (blk_ok G hbk) (bG_ok X scope tg) (bT_ok X scope ifs) (bE_ok X scope kx) (bE_ok X scope elt) (folded_no hs X.env)).se (dc_read hsl hx hi ht hc hk he G r er q)
end
end MP
end
section
set_option autoImplicit false
set_option linter.all false
namespace MP
open PySem L2
section
variable {g : G} {lv : Nat} {N : List Str} {sc : Scope}
/-- two expressions, then a rule that is chosen by what they are worth -/
theorem op2 {fa fb : Fe} {fo : Val → Val → Heap → Rs Val} {ea eb : Expr} {X : Cx} {W : WX} (G : Good g X N sc W lv) (ha : SoE g lv N sc fa ea) (hb : SoE g lv N sc fb eb) {ρ : Nat → Addr} {h : Heap} {H : Hp} {env : Env} {σ : L2.St} {Q : VK} {r : R2}
    (rl : Rel g ρ h H) (er : ER g ρ h.length H env σ) (q : QR g (VR g) W ρ h H σ ((fa env h).bind fun x h1 => (fb env h1).bind fun y h2 => fo x y h2) Q)
    (k : ∀ x h1 y h2 ρ2 H2 vx vy, fa env h = .ok x h1 → fb env h1 = .ok y h2 → Rel g ρ2 h2 H2 → VR g ρ2 h2.length H2 x vx → VR g ρ2 h2.length H2 y vy → QR g (VR g) W ρ2 h2 H2 σ (fo x y h2) Q → r vx vy H2 Q) : tOp r (SE X ea) (SE X eb) σ H Q := by
  refine ha X W G ρ h H env σ _ rl er (QR.imp (QR.bind q) fun vx H1 ⟨ρ1, h1, x, s1, r1, t1, E1, q1⟩ => ?_)
  refine hb X W G ρ1 h1 H1 env σ _ r1 (er.step rl s1) (QR.imp (QR.bind q1) fun vy H2 ⟨ρ2, h2, y, s2, r2, t2, E2, q2⟩ => ?_)
  exact k x h1 y h2 ρ2 H2 vx vy E1 E2 r2 (t1.step r1 s2) t2 q2
theorem plain_ix {e : Expr} (h : isSlice e = false) : ∀ o i, subscripted e false o i = operate [o, i] (getItem o i) := fun o i => by cases e <;> first | rfl | cases h
def ixV (a i : Val) (h : Heap) : Rs Val := match a with
  | .tup xs => (match i with
    | .int k => opt (atI xs k) h
    | _ => .bad)
  | .str z => (match i with
    | .int k => (match atI z.cps.toList k with
      | some c => .ok (.str ⟨#[c]⟩) h
      | none => .bad)
    | _ => .bad)
  | .ref p => (match rd h p with
    | some (.lst xs) => (match i with
      | .int k => opt (atI xs k) h
      | _ => .bad)
    | some (.dct kvs) => (match keyV i with
      | some k => opt (lookK kvs k) h
      | none => .bad)
    | _ => .bad)
  | _ => .bad
theorem VRs.atI {ρ : Nat → Addr} {n : Nat} {H : Hp} {vs : List Val} {xs : List L2.V} {k : Int} {v : Val} (t : VRs g ρ n H vs xs) (e : L2.atI vs k = some v) : ∃ x, L2.atI xs k = some x ∧ VR g ρ n H v x := by
  unfold L2.atI at e ⊢
  rw [← t.length]
  cases z : ixN vs.length k with
  | none => rw [z] at e; cases e
  | some j => rw [z] at e; exact t.get e
def isDctV (v : Val) (h : Heap) : Bool := match v with
  | .ref a => (match rd h a with
    | some (.dct _) => true
    | _ => false)
  | _ => false
theorem so_ix {fa fb : Fe} {ea eb : Expr} {pos : Pos} (hs : isSlice eb = false) (ha : SoE g lv N sc fa ea) (hb : SoE g lv N sc fb eb) : SoE g lv N sc (fun env h => (fa env h).bind fun x h1 => (fb env h1).bind fun y h2 => ixV x y h2) (.Subscript ea eb pos) := by
  intro X W G ρ h H env σ Q r er q
  by_cases hd : ∃ x h1 y h2, fa env h = .ok x h1 ∧ fb env h1 = .ok y h2 ∧ isDctV x h2 = true
  · obtain ⟨x0, h10, y0, h20, E1, E2, E3⟩ := hd
    refine (pe_dget (hu1 G) (self_e X ea) (self_e X eb) (plain_ix hs)).se ?_
    refine op2 (r := fun x y H2 Q => ∃ a v, x = .ref a ∧ DGet H2 a y (some v) ∧ Q v H2) G ha hb r er q fun x h1 y h2 ρ2 H2 vx vy Ea Eb r2 tx ty q2 => ?_
    rw [E1] at Ea; cases Ea
    rw [E2] at Eb; cases Eb
    cases x0 with
    | ref a =>
      unfold isDctV at E3
      dsimp only at E3
      cases za : rd h20 a with
      | none => rw [za] at E3; cases E3
      | some c =>
        cases c with
        | dct kvs =>
          simp only [ixV, za] at q2
          cases zk : keyV y0 with
          | none => rw [zk] at q2; exact q2.elim
          | some k =>
            rw [zk] at q2
            obtain ⟨o, hg, ho⟩ := so_dget G r2 za zk ty
            rcases ho with ⟨a1, rfl⟩ | ⟨v, y', a1, rfl, vy'⟩
            · simp only [a1] at q2; exact q2.elim
            · simp only [a1] at q2
              exact ⟨_, y', tx.of_ref.2, hg, QR.ok (T := VR g) r2 vy' q2⟩
        | lst _ => rw [za] at E3; cases E3
        | ins _ _ => rw [za] at E3; cases E3
    | _ => cases E3
  · refine (pe_ix (ix_seq (X := X)) (self_e X ea) (self_e X eb) (plain_ix hs)).se ?_
    refine op2 G ha hb r er q fun x h1 y h2 ρ2 H2 vx vy Ea Eb r2 tx ty q2 => ?_
    cases x with
    | tup xs =>
      cases y with
      | int k =>
        simp only [ixV] at q2
        cases z : atI xs k with
        | none => rw [z] at q2; exact q2.elim
        | some v =>
          rw [z] at q2
          obtain ⟨a, us, rfl, e1, e2⟩ := tx.of_tup
          cases ty.of_int
          obtain ⟨w, a1, a2⟩ := e2.atI z
          exact .inr (.inl ⟨a, us, k, w, rfl, rfl, by rw [G.hK]; exact e1, a1, QR.ok (T := VR g) r2 a2 q2⟩)
      | _ => exact q2.elim
    | str s =>
      cases y with
      | int k =>
        simp only [ixV] at q2
        obtain ⟨rfl, hs⟩ := tx.of_str
        cases ty.of_int
        split at q2
        · rename_i c z
          exact .inr (.inr ⟨s, k, c, rfl, rfl, hs, z, QR.ok (T := VR g) r2 (VR.str (by show (1 : Nat) ≤ sizeLine; decide)) q2⟩)
        · exact q2.elim
      | _ => exact q2.elim
    | ref a =>
      cases za : rd h2 a with
      | none => simp only [ixV, za] at q2; exact q2.elim
      | some c =>
        cases c with
        | lst xs =>
          cases y with
          | int k =>
            simp only [ixV, za] at q2
            cases z : atI xs k with
            | none => rw [z] at q2; exact q2.elim
            | some v =>
              rw [z] at q2
              obtain ⟨us, e1, e2, _⟩ := r2.lst za
              cases ty.of_int
              obtain ⟨w, a1, a2⟩ := e2.atI z
              exact .inl ⟨_, us, k, w, tx.of_ref.2, rfl, by rw [G.hK]; exact e1, a1, QR.ok (T := VR g) r2 a2 q2⟩
          | _ => simp only [ixV, za] at q2; exact q2.elim
        | dct kvs => exact absurd ⟨_, _, _, _, Ea, Eb, by unfold isDctV; simp only [za]⟩ hd
        | ins _ _ => simp only [ixV, za] at q2; exact q2.elim
    | _ => exact q2.elim
abbrev SPo (X : Cx) (e : Option Expr) : TO := fun σ H Q => ∀ (pins : List (Addr × Obj)) (s : Shared), Inv X pins σ H s → wpAny (model X.prog X.w) X.A (evalPart e X.env) (fun u s' => ∃ o H', Inv X pins σ H' s' ∧ IsPart u o ∧ Q o H') X.xe s
theorem self_po (X : Cx) (e : Option Expr) : PO X e (SPo X e) := ⟨fun pins s σ H Q I h => h pins s I⟩
theorem _root_.L2.PO.se {X : Cx} {e : Option Expr} {t : TO} (h : PO X e t) {σ : L2.St} {H : Hp} {Q : Option Int → Hp → Prop} (q : t σ H Q) : SPo X e σ H Q := fun pins s I => h.run pins s σ H Q I q
def SoP (g : G) (lv : Nat) (N : List Str) (sc : Scope) (f : Env → Heap → Rs (Option Int)) (e : Option Expr) : Prop :=
  ∀ (X : Cx) (W : WX), Good g X N sc W lv → ∀ (ρ : Nat → Addr) (h : Heap) (H : Hp) (env : Env) (σ : L2.St) (Q : Option Int → Hp → Prop), Rel g ρ h H → ER g ρ h.length H env σ → QR g (fun _ _ _ a b => a = b) W ρ h H σ (f env h) Q → SPo X e σ H Q
theorem sp_none : SoP g lv N sc (fun _ h => .ok none h) none := by
  intro X W G ρ h H env σ Q r er q
  exact po_none.se (QR.ok (T := fun _ _ _ a b => a = b) r rfl q)
def ePart (f : Fe) : Env → Heap → Rs (Option Int) := fun env h => (f env h).bind fun v h1 => match v with
  | .int k => .ok (some k) h1
  | _ => .bad
theorem sp_some {f : Fe} {e : Expr} (he : SoE g lv N sc f e) : SoP g lv N sc (ePart f) (some e) := by
  intro X W G ρ h H env σ Q r er q
  refine (po_some (self_e X e)).se ?_
  refine he X W G ρ h H env σ _ r er (QR.imp (QR.bind q) fun x H1 ⟨ρ1, h1, v, s1, r1, t1, _, q1⟩ => ?_)
  cases v with
  | int k => exact ⟨k, t1.of_int, QR.ok (T := fun _ _ _ a b => a = b) r1 rfl q1⟩
  | _ => exact q1.elim
theorem VRs.drop {ρ : Nat → Addr} {n : Nat} {H : Hp} : ∀ {vs : List Val} {xs : List L2.V} (k : Nat), VRs g ρ n H vs xs → VRs g ρ n H (vs.drop k) (xs.drop k)
  | _, _, 0, t => t
  | [], xs, k + 1, t => by rw [VRs] at t; subst t; show VRs g ρ n H [] []; rw [VRs]
  | v :: vs, xs, k + 1, t => by
    rw [VRs] at t
    obtain ⟨x, r, rfl, _, t2⟩ := t
    exact VRs.drop k t2
theorem VRs.take {ρ : Nat → Addr} {n : Nat} {H : Hp} : ∀ {vs : List Val} {xs : List L2.V} (k : Nat), VRs g ρ n H vs xs → VRs g ρ n H (vs.take k) (xs.take k)
  | vs, xs, 0, t => by rw [List.take_zero, List.take_zero, VRs]
  | [], xs, k + 1, t => by rw [VRs] at t; subst t; show VRs g ρ n H [] []; rw [VRs]
  | v :: vs, xs, k + 1, t => by
    rw [VRs] at t
    obtain ⟨x, r, rfl, t1, t2⟩ := t
    rw [List.take_succ_cons, List.take_succ_cons, VRs]
    exact ⟨x, _, rfl, t1, VRs.take k t2⟩
theorem VRs.cut {ρ : Nat → Addr} {n : Nat} {H : Hp} {vs : List Val} {xs : List L2.V} (t : VRs g ρ n H vs xs) (lo hi : Option Int) : VRs g ρ n H (MP.cut vs lo hi) (cutV xs lo hi) := by
  unfold MP.cut cutV
  rw [← t.length]
  exact (t.drop _).take _
theorem VRs.reverse {ρ : Nat → Addr} {n : Nat} {H : Hp} : ∀ {vs : List Val} {xs : List L2.V}, VRs g ρ n H vs xs → VRs g ρ n H vs.reverse xs.reverse
  | [], xs, t => by rw [VRs] at t; subst t; show VRs g ρ n H [] []; rw [VRs]
  | v :: vs, xs, t => by
    rw [VRs] at t
    obtain ⟨x, r, rfl, t1, t2⟩ := t
    rw [List.reverse_cons, List.reverse_cons]
    refine (VRs.reverse t2).append ?_
    rw [VRs]
    exact ⟨x, [], rfl, t1, by rw [VRs]⟩
theorem cut_len {α : Type} (xs : List α) (lo hi : Option Int) : (cut xs lo hi).length ≤ xs.length := by
  unfold cut
  rw [List.length_take, List.length_drop]; omega
theorem cutS_len (z : Str) (lo hi : Option Int) : (cutS z lo hi).length ≤ z.length := by
  show (cutS z lo hi).cps.size ≤ z.cps.size
  unfold cutS
  simp
  omega
abbrev tup0 : PySem.Obj := { cls := .type "tuple", data := .seq #[] }
/-- t[lo:hi]: the whole of it is t itself, nothing of it a plain tuple -/
def rSlB (K : PySem.W.Frag) : L2.V → Option Int → Option Int → Hp → VK → Prop := fun x lo hi H Q => ∃ a xs, x = .ref a ∧ SqT K H a xs ∧
  ((HT.sIx xs.length 0 lo = 0 ∧ HT.sIx xs.length xs.length hi = xs.length) → Q (.ref a) H) ∧
  (¬ (HT.sIx xs.length 0 lo = 0 ∧ HT.sIx xs.length xs.length hi = xs.length) → cutV xs lo hi ≠ [] → ∀ p, H p = none → Q (.ref p) (upd H p (.tup (cutV xs lo hi)))) ∧
  (¬ (HT.sIx xs.length 0 lo = 0 ∧ HT.sIx xs.length xs.length hi = xs.length) → cutV xs lo hi = [] → ∀ p, H p = none → Q (.ref p) (upd H p (.frz tup0 (.tup []))))
theorem sl_tupB {X : Cx} : SlR X (rSlB X.K) := by
  intro pins s σ H x v vl vu lo hi sl Q I rx hs pl pu h
  obtain ⟨a, xs, rfl, hx, q1, q2, q3⟩ := h
  by_cases hw : HT.sIx xs.length 0 lo = 0 ∧ HT.sIx xs.length xs.length hi = xs.length
  · exact sl_tupA pins s σ H _ v vl vu lo hi sl Q I rx hs pl pu ⟨a, xs, rfl, hx, q1, fun z => absurd hw z⟩
  · by_cases he : cutV xs lo hi = []
    · cases rx
      obtain ⟨its, r, tt, zz⟩ := I.tuple hx
      have ln : its.toArray.size = xs.length := by rw [List.size_toArray]; exact r.length.symm
      refine ⟨"tuple", _, PyProof.Rows.slot_tuple_getitem.lookup, tt.typeIs, ?_⟩
      refine HT.getItem_tuple_cut tt hs pl pu (by rw [ln]; exact hw) ?_ (by rw [ln]; exact zz)
      rw [ln]
      have no : (its.toArray.toList.drop (HT.sIx xs.length 0 lo)).take (HT.sIx xs.length xs.length hi - HT.sIx xs.length 0 lo) = [] := by
        have e := he
        unfold cutV at e
        have := congrArg List.length e
        rw [List.length_take, List.length_drop, List.length_nil] at this
        refine List.eq_nil_of_length_eq_zero ?_
        rw [List.length_take, List.length_drop]
        have e2 : its.length = xs.length := r.length.symm
        simp only [e2]
        exact this
      rw [no]
      have hf : H s.heap.objs.size = none := I.hok.fresh (Nat.le_refl _)
      refine ⟨.ref s.heap.objs.size, upd H s.heap.objs.size (.frz tup0 (.tup [])), I.laid (t' := s.toks) (fun b u e => Heap.get?_push_of_some _ e) (Nat.le_refl _) ?_, rfl, q3 hw he _ hf⟩
      exact ⟨Heap.get?_push_size _ rfl, by decide, [], .nil, ⟨_, Heap.get?_push_size _ rfl, rfl, _, rfl⟩⟩
    · exact sl_tup pins s σ H _ v vl vu lo hi sl Q I rx hs pl pu ⟨a, xs, rfl, hx, hw, q2 hw he⟩
theorem cut_whole {α : Type} {xs : List α} {lo hi : Option Int} (hw : HT.sIx xs.length 0 lo = 0 ∧ HT.sIx xs.length xs.length hi = xs.length) : MP.cut xs lo hi = xs := by
  unfold MP.cut
  rw [hw.1, hw.2]
  simp
def slV (v : Val) (lo hi : Option Int) (h : Heap) : Rs Val := match v with
  | .ref a => (match rd h a with
    | some (.lst xs) => al h (.lst (cut xs lo hi))
    | _ => .bad)
  | .str z => .ok (.str (cutS z lo hi)) h
  | .tup xs => .ok (.tup (cut xs lo hi)) h
  | _ => .bad
def eSl (f : Fe) (fl fh : Env → Heap → Rs (Option Int)) : Fe := fun env h => (f env h).bind fun v h1 => (fl env h1).bind fun lo h2 => (fh env h2).bind fun hi h3 => slV v lo hi h3
theorem so_slice {f : Fe} {fl fh : Env → Heap → Rs (Option Int)} {e : Expr} {lo hi : Option Expr} {p pos : Pos} (he : SoE g lv N sc f e) (hl : SoP g lv N sc fl lo) (hh : SoP g lv N sc fh hi) : SoE g lv N sc (eSl f fl fh) (.Subscript e (.Slice lo hi none p) pos) := by
  intro X W G ρ h H env σ Q r er q
  refine (pe_slice ((sl_list (X := X)).or (sl_tupB.or sl_str)) (self_e X e) (self_po X lo) (self_po X hi)).se ?_
  refine he X W G ρ h H env σ _ r er (QR.imp (QR.bind q) fun x H1 ⟨ρ1, h1, v, s1, r1, t1, _, q1⟩ => ?_)
  have er1 := er.step r s1
  refine hl X W G ρ1 h1 H1 env σ _ r1 er1 (QR.imp (QR.bind q1) fun l H2 ⟨ρ2, h2, l', s2, r2, t2, _, q2⟩ => ?_)
  cases t2
  have er2 := er1.step r1 s2
  refine hh X W G ρ2 h2 H2 env σ _ r2 er2 (QR.imp (QR.bind q2) fun u H3 ⟨ρ3, h3, u', s3, r3, t3, _, q3⟩ => ?_)
  cases t3
  have t1 := (t1.step r1 s2).step r2 s3
  cases v with
  | ref a =>
    cases za : rd h3 a with
    | none => simp only [slV, za] at q3; exact q3.elim
    | some c =>
      cases c with
      | lst xs =>
        simp only [slV, za] at q3
        obtain ⟨us, e1, e2, hz⟩ := r3.lst za
        refine .inl ⟨_, us, t1.of_ref.2, by rw [G.hK]; exact e1, fun p hp => ?_⟩
        exact new_lst r3 (Nat.le_trans (cut_len _ _ _) hz) (e2.cut l u) q3 p hp
      | dct _ => simp only [slV, za] at q3; exact q3.elim
      | ins _ _ => simp only [slV, za] at q3; exact q3.elim
  | str z =>
    obtain ⟨rfl, hz⟩ := t1.of_str
    exact .inr (.inr ⟨z, rfl, hz, QR.ok (T := VR g) r3 (VR.str (Nat.le_trans (cutS_len _ _ _) hz)) q3⟩)
  | tup xs =>
    have t0 := t1
    obtain ⟨a, us, rfl, e1, e2⟩ := t1.of_tup
    simp only [slV] at q3
    have ec := (e2.cut l u).length
    refine .inr (.inl ⟨a, us, rfl, by rw [G.hK]; exact e1, fun hw => ?_, fun hw hne p hp => ?_, fun hw he p hp => ?_⟩)
    · rw [← e2.length] at hw
      rw [cut_whole hw] at q3
      exact QR.ok (T := VR g) r3 t0 q3
    · exact new_tup r3 (fun z => hne (List.eq_nil_of_length_eq_zero (by rw [← ec, z]; rfl))) (e2.cut l u) q3 p hp
    · have z : cut xs l u = [] := List.eq_nil_of_length_eq_zero (by rw [ec, he]; rfl)
      rw [z] at q3
      exact new_tupE r3 q3 p hp
  | _ => exact q3.elim
def eRev (f : Fe) : Fe := fun env h => (f env h).bind fun v h1 => match v with
  | .ref a => (match rd h1 a with
    | some (.lst xs) => al h1 (.lst xs.reverse)
    | _ => .bad)
  | _ => .bad
theorem so_rev {f : Fe} {e : Expr} {k : Nat} {p1 p2 p3 pos : Pos} (he : SoE g lv N sc f e) : SoE g lv N sc (eRev f) (.Subscript e (.Slice none none (some (.UnaryOp .USub (.Constant (.int 1) k p1) p2)) p3) pos) := by
  intro X W G ρ h H env σ Q r er q
  refine (pe_revL (self_e X e)).se ?_
  refine he X W G ρ h H env σ _ r er (QR.imp (QR.bind q) fun x H1 ⟨ρ1, h1, v, s1, r1, t1, _, q1⟩ => ?_)
  cases v with
  | ref a =>
    dsimp only at q1
    cases za : rd h1 a with
    | none => rw [za] at q1; exact q1.elim
    | some c =>
      rw [za] at q1
      cases c with
      | lst xs =>
        obtain ⟨us, e1, e2, hz⟩ := r1.lst za
        exact ⟨_, us, t1.of_ref.2, by rw [G.hK]; exact e1, fun p hp => new_lst r1 (by rw [List.length_reverse]; exact hz) e2.reverse q1 p hp⟩
      | dct _ => exact q1.elim
      | ins _ _ => exact q1.elim
  | _ => exact q1.elim
abbrev SCl (X : Cx) (f : Value) : List L2.V → Hp → VK → Prop := fun vs H Q => ∀ (pins : List (Addr × Obj)) (s : Shared) (σ : L2.St) (us : List Value), Inv X pins σ H s → Vals vs us → wpAny (model X.prog X.w) X.A (call f us) (EP X pins σ Q) X.xe s
theorem self_cl (X : Cx) (f : Value) : CallR X f (SCl X f) := fun pins s σ H xs us Q I r h => h pins s σ us I r
theorem _root_.L2.CallR.se {X : Cx} {f : Value} {r : List L2.V → Hp → VK → Prop} (ho : CallR X f r) {xs : List L2.V} {H : Hp} {Q : VK} (h : r xs H Q) : SCl X f xs H Q := fun pins s σ us I rv => ho pins s σ H xs us Q I rv h
def SoF (g : G) (lv : Nat) (f : Value) (fo : List Val → Heap → Rs Val) : Prop :=
  ∀ (X : Cx) (W : WX) (N : List Str) (sc : Scope), Good g X N sc W lv → ∀ (ρ : Nat → Addr) (h : Heap) (H : Hp) (σ : L2.St) (vs : List Val) (xs : List L2.V) (Q : VK), Rel g ρ h H → VRs g ρ h.length H vs xs → QR g (VR g) W ρ h H σ (fo vs h) Q → SCl X f xs H Q
theorem so_bf {id : String} {fo : List Val → Heap → Rs Val} {fs : Env → Heap → Rs (List Val)} {x : Str} {e : Expr} {es : List Expr} {p pos : Pos} (hf : SoF g lv (.builtin id) fo) (hx : sc.names.lookup x = some .globalImplicit) (hm : g.mg x = none) (hv : bootBuiltins x = some (.builtin id)) (hn : x ≠ "__name__") (hdb : (x == ("__debug__" : Str)) = false)
    (hs : (e :: es).all (fun e => !isSt e) = true) (ha : SoA g lv N sc fs (e :: es)) : SoE g lv N sc (fun env h => (fs env h).bind fo) (.Call (.Name x p) (e :: es) [] pos) := by
  intro X W G ρ h H env σ Q r er q
  simp only [List.all_cons, Bool.and_eq_true, Bool.not_eq_true'] at hs
  refine (pe_callB (self_cl X _) (G.gl hx) (by rw [G.hmg]; exact hm) hv (self_a X (e :: es)) hn hdb (starEach_plain hs.1 es X.env) (noStar hs.2 pos X.env)).se ?_
  refine ha X W G ρ h H env σ _ r er (QR.imp (QR.bind q) fun xs H1 ⟨ρ1, h1, vs, s1, r1, t1, _, q1⟩ => ?_)
  exact hf X W N sc G ρ1 h1 H1 σ vs xs Q r1 t1 q1
theorem so_bt {T : String} {fo : List Val → Heap → Rs Val} {fs : Env → Heap → Rs (List Val)} {x : Str} {e : Expr} {es : List Expr} {p pos : Pos} (hf : SoF g lv (.type T) fo) (hx : sc.names.lookup x = some .globalImplicit) (hm : g.mg x = none) (hv : bootBuiltins x = some (.type T)) (hn : x ≠ "__name__") (hdb : (x == ("__debug__" : Str)) = false)
    (hs : (e :: es).all (fun e => !isSt e) = true) (ha : SoA g lv N sc fs (e :: es)) : SoE g lv N sc (fun env h => (fs env h).bind fo) (.Call (.Name x p) (e :: es) [] pos) := by
  intro X W G ρ h H env σ Q r er q
  simp only [List.all_cons, Bool.and_eq_true, Bool.not_eq_true'] at hs
  refine (pe_callTy (self_cl X _) (G.gl hx) (by rw [G.hmg]; exact hm) hv (self_a X (e :: es)) hn hdb (starEach_plain hs.1 es X.env) (noStar hs.2 pos X.env)).se ?_
  refine ha X W G ρ h H env σ _ r er (QR.imp (QR.bind q) fun xs H1 ⟨ρ1, h1, vs, s1, r1, t1, _, q1⟩ => ?_)
  exact hf X W N sc G ρ1 h1 H1 σ vs xs Q r1 t1 q1
/-- one argument -/
def f1 (f : Val → Heap → Rs Val) (vs : List Val) (h : Heap) : Rs Val := match vs with
  | [v] => f v h
  | _ => .bad
def SoF1 (g : G) (lv : Nat) (f : Value) (fo : Val → Heap → Rs Val) : Prop :=
  ∀ (X : Cx) (W : WX) (N : List Str) (sc : Scope), Good g X N sc W lv → ∀ (ρ : Nat → Addr) (h : Heap) (H : Hp) (σ : L2.St) (v : Val) (x : L2.V) (Q : VK), Rel g ρ h H → VR g ρ h.length H v x → QR g (VR g) W ρ h H σ (fo v h) Q → SCl X f [x] H Q
theorem SoF1.f {f : Value} {fo : Val → Heap → Rs Val} (k : SoF1 g lv f fo) : SoF g lv f (f1 fo) := by
  intro X W N sc G ρ h H σ vs xs Q r t q
  match vs, q, t with
  | [], q, _ => exact q.elim
  | _ :: _ :: _, q, _ => exact q.elim
  | [v], q, t =>
    rw [VRs] at t
    obtain ⟨x, xr, rfl, t1, t2⟩ := t
    rw [VRs] at t2
    subst t2
    exact k X W N sc G ρ h H σ v x Q r t1 q
def lenV (v : Val) (h : Heap) : Rs Val := match v with
  | .str z => .ok (.int z.length) h
  | .tup xs => .ok (.int xs.length) h
  | .ref a => (match h[a]? with
    | some (_, .lst xs) => .ok (.int xs.length) h
    | some (_, .dct kvs) => .ok (.int kvs.length) h
    | _ => .bad)
  | _ => .bad
theorem bf_len : SoF1 g lv (.builtin "len") lenV := by
  intro X W N sc G ρ h H σ v x Q r t q
  cases v with
  | str z =>
    obtain ⟨rfl, hz⟩ := t.of_str
    exact call_len.se ⟨_, z.length, rfl, ⟨hz, rfl⟩, QR.ok (T := VR g) r VR.int q⟩
  | tup vs =>
    obtain ⟨a, xs, rfl, e1, e2⟩ := t.of_tup
    exact call_len.se ⟨_, vs.length, rfl, .inr ⟨xs, by rw [G.hK]; exact e1, e2.length⟩, QR.ok (T := VR g) r VR.int q⟩
  | ref a =>
    obtain ⟨_, rfl⟩ := t.of_ref
    cases z : h[a]? with
    | none => simp only [lenV, z] at q; exact q.elim
    | some c =>
      obtain ⟨b, c⟩ := c
      cases c with
      | lst vs =>
        simp only [lenV, z] at q
        obtain ⟨xs, e1, e2, _⟩ := r.lst (i := a) (vs := vs) (by unfold rd; rw [z]; rfl)
        exact call_len.se ⟨_, vs.length, rfl, .inl ⟨xs, by rw [G.hK]; exact e1, e2.length⟩, QR.ok (T := VR g) r VR.int q⟩
      | dct kvs =>
        simp only [lenV, z] at q
        obtain ⟨xs, e1, e2, _⟩ := r.dct (i := a) (vs := kvs) (by unfold rd; rw [z]; rfl)
        intro pins s σ us I rv
        rw [Vals.ref1 rv]
        exact d_len I e1 fun t s' I' => ⟨.int xs.length, H, I', ⟨t, rfl⟩, by rw [← e2.length]; exact QR.ok (T := VR g) r VR.int q⟩
      | ins _ _ => simp only [lenV, z] at q; exact q.elim
  | _ => exact q.elim
def intV (v : Val) (h : Heap) : Rs Val := match v with
  | .int i => .ok (.int i) h
  | .bl b => .ok (.int (if b then 1 else 0)) h
  | .str a => (match intText? a with
    | some n => if a.length ≤ 640 then .ok (.int n) h else .bad
    | none => .bad)
  | _ => .bad
theorem bf_int : SoF1 g lv (.type "int") intV := by
  intro X W N sc G ρ h H σ v x Q r t q
  cases v with
  | int i => cases t.of_int; exact call_int1.se (.inl ⟨i, rfl, QR.ok (T := VR g) r VR.int q⟩)
  | bl b => cases t.of_bl; exact call_int1.se (.inr ⟨b, rfl, QR.ok (T := VR g) r VR.int q⟩)
  | str a =>
    obtain ⟨rfl, _⟩ := t.of_str
    unfold intV at q
    dsimp only at q
    split at q
    · rename_i n e
      split at q
      · rename_i hl
        exact call_int_str.se ⟨a, n, rfl, e, hl, QR.ok (T := VR g) r VR.int q⟩
      · exact q.elim
    · exact q.elim
  | _ => exact q.elim
theorem KR.keys {ρ : Nat → Addr} {n : Nat} {H : Hp} : ∀ {vs : List (Key × Val)} {xs : List (Key × L2.V)}, KR g ρ n H vs xs → xs.map (·.1) = vs.map (·.1)
  | [], xs, t => by rw [KR] at t; subst t; rfl
  | (k, v) :: vs, xs, t => by
    rw [KR] at t
    obtain ⟨x, r, rfl, _, t2⟩ := t
    rw [List.map_cons, List.map_cons, KR.keys t2]
theorem VRs.of_keys {ρ : Nat → Addr} {n : Nat} {H : Hp} : ∀ (ks : List Key), (∀ k ∈ ks, KOk k) → VRs g ρ n H (ks.map vKey) (ks.map kV)
  | [], _ => by show VRs g ρ n H [] []; rw [VRs]
  | k :: ks, hk => by
    rw [List.map_cons, List.map_cons, VRs]
    exact ⟨_, _, rfl, VR.key (hk k List.mem_cons_self), VRs.of_keys ks fun k' h' => hk k' (List.mem_cons_of_mem _ h')⟩
def listV (v : Val) (h : Heap) : Rs Val := match v with
  | .tup xs => if xs.length ≤ lim then al h (.lst xs) else .bad
  | .ref a => (match rd h a with
    | some (.lst xs) => al h (.lst xs)
    | some (.dct kvs) => al h (.lst ((kvs.map (·.1)).map vKey))
    | _ => .bad)
  | _ => .bad
theorem bf_list : SoF1 g lv (.type "list") listV := by
  intro X W N sc G ρ h H σ v x Q r t q
  cases v with
  | tup vs =>
    obtain ⟨a, xs, rfl, e1, e2⟩ := t.of_tup
    simp only [listV] at q
    by_cases hl : vs.length ≤ lim
    · rw [if_pos hl] at q
      exact call_list_of.se ⟨a, xs, rfl, .inr (by rw [G.hK]; exact e1), fun p hp => new_lst r (lim_le hl) e2 q p hp⟩
    · rw [if_neg hl] at q; exact q.elim
  | ref a =>
    obtain ⟨_, rfl⟩ := t.of_ref
    cases z : rd h a with
    | none => simp only [listV, z] at q; exact q.elim
    | some c =>
      cases c with
      | lst vs =>
        simp only [listV, z] at q
        obtain ⟨xs, e1, e2, hz⟩ := r.lst z
        exact call_list_of.se ⟨_, xs, rfl, .inl (by rw [G.hK]; exact e1), fun p hp => new_lst r hz e2 q p hp⟩
      | dct kvs =>
        simp only [listV, z] at q
        obtain ⟨xs, e1, e2, hz⟩ := r.dct z
        refine (call_listD G.calm).se ⟨_, xs, rfl, e1, fun p hp => ?_⟩
        have ek : (xs.map fun kv => kV kv.1) = (kvs.map (·.1)).map kV := by rw [← e2.keys, List.map_map]; rfl
        rw [ek]
        refine new_lst r (by simp only [List.length_map]; exact hz.1) (VRs.of_keys _ fun k hk => ?_) q p hp
        obtain ⟨kv, hkv, rfl⟩ := List.mem_map.mp hk
        exact hz.2 kv hkv
      | ins _ _ => simp only [listV, z] at q; exact q.elim
  | _ => exact q.elim
def tupleV (v : Val) (h : Heap) : Rs Val := match v with
  | .tup xs => .ok (.tup xs) h
  | .ref a => (match rd h a with
    | some (.lst xs) => .ok (.tup xs) h
    | _ => .bad)
  | _ => .bad
theorem call_tuple0 {X : Cx} : CallR X (.type "tuple") (fun xs H Q => ∃ p : Addr, xs = [.ref p] ∧ SqL X.K H p [] ∧ ∀ l, H l = none → Q (.ref l) (upd H l (.frz { cls := .type "tuple", data := .seq #[] } (.tup [])))) := by
  intro pins s σ H xs us Q I r h
  obtain ⟨p, rfl, hq, q⟩ := h
  obtain ⟨u, rfl, rx⟩ := vals1 r
  cases rx
  obtain ⟨its, r', pl, hz⟩ := I.list hq
  cases r'
  refine call_tuple_list pl.isList (fun h' kp => ?_) (by decide)
  have I1 : Inv X pins σ H { s with heap := h' } := I.kept (t' := s.toks) kp
  have I2 : Inv X pins σ (upd H h'.objs.size (.frz { cls := .type "tuple", data := .seq #[] } (.tup []))) { s with heap := h'.push { cls := .type "tuple", data := .seq #[] } } :=
    I1.laid (t' := s.toks) (fun b o e => Heap.get?_push_of_some _ e) (Nat.le_refl _) (show ObjOk X.prog X.w _ _ _ (.frz _ (.tup [])) from ⟨Heap.get?_push_size _ rfl, by decide, [], .nil, PyProof.Rows.IsTup.new _ _⟩)
  exact ⟨.ref h'.objs.size, _, I2, rfl, q _ (I1.hok.fresh (Nat.le_refl _))⟩
theorem bf_tuple : SoF1 g lv (.type "tuple") tupleV := by
  intro X W N sc G ρ h H σ v x Q r t q
  cases v with
  | tup vs =>
    have t' := t
    obtain ⟨a, xs, rfl, e1, e2⟩ := t.of_tup
    exact call_tuple_of.se ⟨a, xs, rfl, .inr ⟨by rw [G.hK]; exact e1, QR.ok (T := VR g) r t' q⟩⟩
  | ref a =>
    obtain ⟨_, rfl⟩ := t.of_ref
    cases z : rd h a with
    | none => simp only [tupleV, z] at q; exact q.elim
    | some c =>
      cases c with
      | lst vs =>
        simp only [tupleV, z] at q
        obtain ⟨xs, e1, e2, hz⟩ := r.lst z
        by_cases hv : vs = []
        · subst hv
          rw [VRs] at e2
          subst e2
          exact (call_tuple0 (X := X)).se ⟨_, rfl, by rw [G.hK]; exact e1, fun p hp => new_tupE r q p hp⟩
        · exact call_tuple_of.se ⟨_, xs, rfl, .inl ⟨by rw [G.hK]; exact e1, fun p hp => new_tup r hv e2 q p hp⟩⟩
      | dct kvs => simp only [tupleV, z] at q; exact q.elim
      | ins _ _ => simp only [tupleV, z] at q; exact q.elim
  | _ => exact q.elim
end
end MP
end
section
set_option autoImplicit false
set_option linter.all false
namespace MP
open PySem L2 PySem.Spec PyProof.Rows
section
variable {g : G} {lv : Nat} {N : List Str} {sc : Scope}
theorem new_dct {ρ : Nat → Addr} {h : Heap} {H : Hp} {σ : L2.St} {W : WX} {Q : VK} (r : Rel g ρ h H) {vs : List (Key × Val)} {xs : List (Key × L2.V)} (hl : DLen vs) (t : KR g ρ h.length H vs xs) (q : QR g (VR g) W ρ h H σ (al h (.dct vs)) Q) (p : Addr) (hp : H p = none) : Q (.ref p) (upd H p (.dK xs)) := by
  have st : Stp ρ (ext ρ h.length p) h (h ++ [(false, .dct vs)]) H (upd H p (.dK xs)) := Stp.alloc r hp
  have t' := t.step r st
  rw [List.length_append, List.length_singleton] at t'
  refine q _ _ _ st (r.alloc hp ⟨hl, xs, upd_same, t'⟩) ?_
  rw [VR]
  exact ⟨by simp, by rw [ext_new]⟩
def pairsV : List Val → Option (List (Key × Val))
  | [] => some []
  | .tup [k, v] :: r => (match keyV k, pairsV r with
    | some k, some kvs => some ((k, v) :: kvs)
    | _, _ => none)
  | _ => none
theorem pairs_ok {ρ : Nat → Addr} {n : Nat} {H : Hp} : ∀ {vs : List Val} {xs : List L2.V} {kvs : List (Key × Val)}, VRs g ρ n H vs xs → pairsV vs = some kvs →
    ∃ (ps : List Addr) (kxs : List (Key × L2.V)), xs = ps.map V.ref ∧ Paired (fun p kv => SqT g.K H p [kV kv.1, kv.2]) ps kxs ∧ KR g ρ n H kvs kxs ∧ kvs.length = vs.length ∧ ∀ p ∈ kvs, KOk p.1
  | [], xs, kvs, t, e => by
    rw [VRs] at t
    subst t
    cases e
    exact ⟨[], [], rfl, .nil, by rw [KR], rfl, fun p hp => nomatch hp⟩
  | v :: vs, xs, kvs, t, e => by
    rw [VRs] at t
    obtain ⟨x, xr, rfl, t1, t2⟩ := t
    match v, e, t1 with
    | .tup [k, u], e, t1 =>
      unfold pairsV at e
      cases zk : keyV k with
      | none => rw [zk] at e; cases e
      | some k' =>
        cases zr : pairsV vs with
        | none => rw [zk, zr] at e; cases e
        | some kvs' =>
          rw [zk, zr] at e
          cases e
          obtain ⟨ps, kxs, rfl, hp, hk, hl, ho⟩ := pairs_ok t2 zr
          obtain ⟨a, ys, rfl, e1, e2⟩ := t1.of_tup
          rw [VRs] at e2
          obtain ⟨y1, yr, rfl, a1, e2⟩ := e2
          rw [VRs] at e2
          obtain ⟨y2, yr2, rfl, a2, e2⟩ := e2
          rw [VRs] at e2
          subst e2
          have hko := keyV_kok zk a1
          cases keyV_ok zk a1
          refine ⟨a :: ps, (k', y2) :: kxs, rfl, .cons e1 hp, ?_, by rw [List.length_cons, List.length_cons, hl], fun p hp => ?_⟩
          · rw [KR]; exact ⟨y2, kxs, rfl, a2, hk⟩
          · rcases List.mem_cons.mp hp with rfl | hp
            · exact hko
            · exact ho p hp
    | .non, e, _ => cases e
    | .bl _, e, _ => cases e
    | .int _, e, _ => cases e
    | .str _, e, _ => cases e
    | .ref _, e, _ => cases e
    | .cls _, e, _ => cases e
    | .ty _, e, _ => cases e
    | .scr _, e, _ => cases e
    | .tup [], e, _ => cases e
    | .tup [_], e, _ => cases e
    | .tup (_ :: _ :: _ :: _), e, _ => cases e
theorem KR.merge {ρ : Nat → Addr} {n : Nat} {H : Hp} : ∀ {more : List (Key × Val)} {mx : List (Key × L2.V)} {kvs : List (Key × Val)} {kxs : List (Key × L2.V)}, KR g ρ n H more mx → KR g ρ n H kvs kxs → KR g ρ n H (merK kvs more) (mergeK kxs mx)
  | [], mx, kvs, kxs, t, u => by rw [KR] at t; subst t; exact u
  | (k, v) :: more, mx, kvs, kxs, t, u => by
    rw [KR] at t
    obtain ⟨x, r, rfl, t1, t2⟩ := t
    have h := KR.merge (more := more) (mx := r) t2 (KR.put (k := k) t1 u)
    exact h
theorem merK_len : ∀ (more kvs : List (Key × Val)), (merK kvs more).length ≤ kvs.length + more.length
  | [], kvs => Nat.le_refl _
  | (k, v) :: more, kvs => by
    show (merK (setK kvs k v) more).length ≤ _
    have := merK_len more (setK kvs k v)
    have := setK_length kvs k v
    rw [List.length_cons]
    omega
theorem setK_kok {kvs : List (Key × Val)} {k : Key} {v : Val} (h : ∀ p ∈ kvs, KOk p.1) (hk : KOk k) : ∀ p ∈ setK kvs k v, KOk p.1 := fun p hp => by
  unfold setK at hp
  split at hp
  · obtain ⟨q, hq, e⟩ := List.mem_map.mp hp
    split at e <;> (rw [← e]; exact h q hq)
  · rcases List.mem_append.mp hp with hp | hp
    · exact h p hp
    · rw [List.mem_singleton.mp hp]; exact hk
theorem merK_kok : ∀ {more kvs : List (Key × Val)}, (∀ p ∈ more, KOk p.1) → (∀ p ∈ kvs, KOk p.1) → ∀ p ∈ merK kvs more, KOk p.1
  | [], kvs, _, h => h
  | (k, v) :: more, kvs, h1, h2 => merK_kok (more := more) (kvs := setK kvs k v) (fun p hp => h1 p (List.mem_cons_of_mem _ hp)) (setK_kok h2 (h1 _ List.mem_cons_self))
def dictV (v : Val) (h : Heap) : Rs Val := match v with
  | .tup [] => al h (.dct [])
  | .ref a => (match rd h a with
    | some (.dct kvs) => al h (.dct kvs)
    | some (.lst xs) => (match pairsV xs with
      | some kvs => al h (.dct (merK [] kvs))
      | none => .bad)
    | _ => .bad)
  | _ => .bad
theorem Pl.at {X : Cx} {pins : List (Addr × Obj)} {s : Shared} {σ : L2.St} {H : Hp} {a : Addr} (I : Inv X pins σ H s) (h : Pl X.K H a) : PySem.PlainSeq "tuple" s.heap a #[] := by
  obtain ⟨o, n, e, hc, hd, ha⟩ := h
  refine ⟨o, n, ?_, hc, hd, ha⟩
  rcases e with e | e
  · exact (I.hok a _ e).1
  · exact I.kIn a o e
theorem call_dict0 {X : Cx} (hcalm : X.calm = true) : CallR X (.type "dict") (fun xs H Q => ∃ a : Addr, xs = [.ref a] ∧ Pl X.K H a ∧ ∀ p, H p = none → Q (.ref p) (upd H p (.dK []))) := by
  intro pins s σ H xs us Q I r q
  obtain ⟨a, rfl, hq, q⟩ := q
  obtain ⟨u, rfl, rx⟩ := vals1 r
  cases rx
  refine PySem.call_dict_pairs (knd := mixKind X.prog X.w) (kvs := []) (PySem.PairArg.tuple a #[] (fun _ => 0) []) (I.ok.hd hcalm) ⟨hq.at I, rfl, fun j k v e => nomatch e⟩ ⟨rfl, fun i k v e => nomatch e⟩ (by decide) fun h' tk hd' k => ?_
  have hm : (s.heap.objs.size == sysModules) = false := beq_eq_false_iff_ne.mpr (Nat.ne_of_gt I.big)
  exact ⟨.ref s.heap.objs.size, upd H s.heap.objs.size (.dK []), I.laid (t' := tk) (fun b o e => k b o (fun z => nomatch z) e) (Nat.le_refl _) (show ObjOk X.prog X.w _ _ _ (.dK []) from ⟨by decide, hm, [], .nil, hd'⟩), rfl, q _ (I.hok.fresh (Nat.le_refl _))⟩
theorem bf_dict : SoF1 g lv (.type "dict") dictV := by
  intro X W N sc G ρ h H σ v x Q r t q
  cases v with
  | tup vs =>
    cases vs with
    | cons a b => exact q.elim
    | nil =>
      obtain ⟨a, xs, rfl, e1, e2⟩ := t.of_tupA
      rw [VRs] at e2
      exact (call_dict0 G.calm).se ⟨a, rfl, by rw [G.hK]; exact e1.2 e2, fun p hp => new_dct r ⟨by decide, fun p hp => absurd hp List.not_mem_nil⟩ (by rw [KR]) q p hp⟩
  | ref a =>
    obtain ⟨_, rfl⟩ := t.of_ref
    cases z : rd h a with
    | none => simp only [dictV, z] at q; exact q.elim
    | some c =>
      cases c with
      | ins _ _ => simp only [dictV, z] at q; exact q.elim
      | dct kvs =>
        simp only [dictV, z] at q
        obtain ⟨xs, e1, e2, hz⟩ := r.dct z
        exact call_dictD.se ⟨_, xs, rfl, e1, fun p hp => new_dct r hz e2 q p hp⟩
      | lst vs =>
        simp only [dictV, z] at q
        obtain ⟨xs, e1, e2, hz⟩ := r.lst z
        cases zp : pairsV vs with
        | none => rw [zp] at q; exact q.elim
        | some kvs =>
          rw [zp] at q
          obtain ⟨ps, kxs, rfl, hp, hk, hl, ho⟩ := pairs_ok e2 zp
          refine (call_dictP G.calm).se ⟨_, ps, kxs, rfl, by rw [G.hK]; exact e1, by rw [G.hK]; exact hp, fun p hp => ?_⟩
          refine new_dct r ⟨?_, merK_kok ho fun p hp => absurd hp List.not_mem_nil⟩ (hk.merge (by rw [KR])) q p hp
          have := merK_len kvs []
          rw [List.length_nil, Nat.zero_add, hl] at this
          exact Nat.le_trans this hz
  | _ => exact q.elim
end
end MP
end
section
set_option autoImplicit false
set_option linter.all false
set_option maxRecDepth 100000
set_option maxHeartbeats 2000000
namespace MP
open PySem L2 PySem.Spec PyProof.Rows
theorem cr_sortedTS {X : Cx} : CallR X (.builtin "sorted") (fun xs H Q => ∃ (a : Addr) (ks : List Str), xs = [.ref a] ∧ SqT X.K H a (ks.map V.str) ∧ ks.length < 64 ∧
    ∀ ys p, ys.Perm ks → sortedS ys = true → H p = none → Q (.ref p) (upd H p (.lst (ys.map V.str)))) := by
  intro pins s σ H xs us Q I rv0 ⟨a, ks, ex, ht, few, q⟩
  subst ex
  obtain ⟨u0, e0, ru⟩ := vals1 rv0
  subst e0
  cases ru
  obtain ⟨its, rv, tp, zz⟩ := I.tuple ht
  have sA : StrsAre its ks := rv.strs
  have ln : its.length = ks.length := by have := rv.length; rw [List.length_map] at this; exact this.symm
  obtain ⟨ob, hob, hcl, nn, hda⟩ := tp
  refine Calls.call_function_entry kind_sorted plain_sorted entry_sorted (args_sorted1 _) ?_
  unfold Builtin.«sorted»
  refine wpAny_bind (m := checkCount "sorted" 1 1 _) (wpAny_pure ?_)
  refine wpAny_bind (wpAny_collect_seq a (.inr rfl) hob hcl hda (fun g hk => ?_) (by rw [List.size_toArray, ln, sizeLine_eq]; omega))
  rw [show its.toArray.toList = its from rfl]
  have I1 : Inv X pins σ H { s with heap := g } := I.kept (t' := s.toks) hk
  refine wpAny_bind (wpAny_newList ?_ (by rw [ln, sizeLine_eq]; omega))
  have at1 : (g.push (seqObj "list" its.toArray 0)).get? g.objs.size = some (seqObj "list" its.toArray 0) := Heap.get?_push_size _ rfl
  show wpAny _ _ _ _ _ { s with heap := g.push (seqObj "list" its.toArray 0) }
  refine wpAny_bind (wpAny_holding (wpAny_call_entry slot_list_sort ⟨_, at1, rfl⟩ entry_list_sort
    (list_sort_treeK strKind_oneLt (s := { s with heap := g.push (seqObj "list" its.toArray 0) }) at1 sA.keysOf (fun v₁ v₂ rest e => keyKind_strs (by rw [← e]; exact sA)) (by rw [ln]; exact few) fun st' hp hs => ⟨_, rfl, ?_⟩)
    (args_list_sort _)))
  obtain ⟨ys, g1, g2, g3⟩ := sorted_out_str sA hp hs
  obtain ⟨e', at2⟩ := sortedHeap_at (vs := its) (out := (arrOf st').map (·.2)) at1
  have small : (ys.map V.str).length ≤ sizeLine := by
    rw [List.length_map, g2.length_eq, sizeLine_eq]; omega
  refine wpAny_pure ⟨_, rfl, .ref g.objs.size, upd H g.objs.size (.lst (ys.map V.str)), I1.laid (t' := s.toks) (fun b u e => ?_) (Nat.le_refl _)
    (show ObjOk X.prog X.w _ _ _ (.lst (ys.map V.str)) from ⟨small, ((arrOf st').map (·.2)).toList, e', vals_of_strs g1, by rw [Array.toArray_toList]; exact at2⟩), rfl, q ys _ g2 g3 (I1.hok.fresh (Nat.le_refl _))⟩
  have lt := Heap.lt_size e
  rw [sortedHeap_old (Nat.ne_of_lt lt) (by rw [size_push']; exact Nat.lt_succ_of_lt lt)]
  exact Heap.get?_push_of_some _ e
end MP
end
section
set_option autoImplicit false
set_option linter.all false
namespace MP
open PySem L2 PySem.Spec PyProof.Rows
theorem ltCps_eq : ∀ a b : List Nat, ltCps a b = decide (a < b)
  | [], [] => rfl
  | [], b :: t => by simp [ltCps]
  | a :: r, [] => by simp [ltCps]
  | a :: r, b :: t => by
    rw [ltCps, ltCps_eq r t]
    rw [Bool.eq_iff_iff]
    simp [List.cons_lt_cons_iff]
def leS (a b : Str) : Bool := !decide (b.cps.toList < a.cps.toList)
theorem leS_iff {a b : Str} : leS a b = true ↔ a.cps.toList ≤ b.cps.toList := by
  unfold leS; rw [Bool.not_eq_true', decide_eq_false_iff_not, List.not_lt]
theorem leS_total (a b : Str) : leS a b = true ∨ leS b a = true := by
  rw [leS_iff, leS_iff]; exact List.le_total _ _
theorem leS_trans {a b c : Str} (h : leS a b = true) (h' : leS b c = true) : leS a c = true := by
  rw [leS_iff] at *; exact List.le_trans h h'
theorem leS_antisymm {a b : Str} (h : leS a b = true) (h' : leS b a = true) : a = b := by
  rw [leS_iff] at *
  have e := List.le_antisymm h h'
  obtain ⟨⟨l⟩⟩ := a
  obtain ⟨⟨m⟩⟩ := b
  cases (show l = m from e)
  rfl
def insS (x : Str) : List Str → List Str
  | [] => [x]
  | y :: r => if leS x y then x :: y :: r else y :: insS x r
def sortS : List Str → List Str
  | [] => []
  | x :: r => insS x (sortS r)
theorem insS_perm (x : Str) : ∀ r : List Str, (insS x r).Perm (x :: r)
  | [] => .refl _
  | y :: r => by
    unfold insS
    split
    · exact .refl _
    · exact ((insS_perm x r).cons y).trans (.swap x y r)
theorem sortS_perm : ∀ r : List Str, (sortS r).Perm r
  | [] => .refl _
  | x :: r => (insS_perm x _).trans ((sortS_perm r).cons x)
abbrev Up (l : List Str) : Prop := l.Pairwise fun a b => leS a b = true
theorem insS_up (x : Str) : ∀ {r : List Str}, Up r → Up (insS x r)
  | [], _ => List.pairwise_singleton _ _
  | y :: r, h => by
    rw [Up, List.pairwise_cons] at h
    unfold insS
    split
    · rename_i hx
      refine List.pairwise_cons.mpr ⟨fun z hz => ?_, List.pairwise_cons.mpr h⟩
      rcases List.mem_cons.mp hz with rfl | hz
      · exact hx
      · exact leS_trans hx (h.1 z hz)
    · rename_i hx
      refine List.pairwise_cons.mpr ⟨fun z hz => ?_, insS_up x h.2⟩
      rcases List.mem_cons.mp ((insS_perm x r).mem_iff.mp hz) with rfl | hz
      · exact (leS_total _ _).resolve_left hx
      · exact h.1 z hz
theorem sortS_up : ∀ r : List Str, Up (sortS r)
  | [] => .nil
  | x :: r => insS_up x (sortS_up r)
theorem up_unique : ∀ {l m : List Str}, Up l → Up m → l.Perm m → l = m
  | [], m, _, _, p => (List.nil_perm.mp p).symm
  | x :: l, [], _, _, p => absurd p.length_eq (by simp)
  | x :: l, y :: m, hl, hm, p => by
    rw [Up, List.pairwise_cons] at hl hm
    have e : x = y := by
      rcases List.mem_cons.mp (p.mem_iff.mp List.mem_cons_self) with e | hx
      · exact e
      · rcases List.mem_cons.mp (p.mem_iff.mpr List.mem_cons_self) with e | hy
        · exact e.symm
        · exact leS_antisymm (hl.1 y hy) (hm.1 x hx)
    subst e
    rw [up_unique hl.2 hm.2 (List.Perm.cons_inv p)]
theorem up_sorted : ∀ {l : List Str}, sortedS l = true → Up l
  | [], _ => .nil
  | x :: r, h => by
    have key : ∀ (r : List Str) (x : Str), risingS x r = true → Up (x :: r) := fun r => by
      induction r with
      | nil => intro x _; exact List.pairwise_singleton _ _
      | cons y r ih =>
        intro x h
        simp only [risingS, Bool.and_eq_true, ltCps_eq] at h
        have u := ih y h.2
        have hxy : leS x y = true := h.1
        refine List.pairwise_cons.mpr ⟨fun z hz => ?_, u⟩
        rcases List.mem_cons.mp hz with rfl | hz
        · exact hxy
        · exact leS_trans hxy ((List.pairwise_cons.mp u).1 z hz)
    exact key r x h
theorem sorted_is {l ys : List Str} (p : ys.Perm l) (h : sortedS ys = true) : ys = sortS l := up_unique (up_sorted h) (sortS_up l) (p.trans (sortS_perm l).symm)
section
variable {g : G} {lv : Nat} {N : List Str} {sc : Scope}
def strsV : List Val → Option (List Str)
  | [] => some []
  | .str x :: r => (strsV r).map (x :: ·)
  | _ => none
def intsV : List Val → Option (List Int)
  | [] => some []
  | .int x :: r => (intsV r).map (x :: ·)
  | _ => none
def blsV : List Val → Option (List Bool)
  | [] => some []
  | .bl x :: r => (blsV r).map (x :: ·)
  | _ => none
theorem strs_ok {ρ : Nat → Addr} {n : Nat} {H : Hp} : ∀ {vs : List Val} {xs : List L2.V} {zs : List Str}, VRs g ρ n H vs xs → strsV vs = some zs → xs = zs.map L2.V.str ∧ vs = zs.map Val.str ∧ ∀ z ∈ zs, z.length ≤ sizeLine
  | [], xs, zs, t, e => by cases e; rw [VRs] at t; exact ⟨t, rfl, fun z hz => absurd hz List.not_mem_nil⟩
  | v :: vs, xs, zs, t, e => by
    cases v with
    | str x =>
      simp only [strsV, Option.map_eq_some_iff] at e
      obtain ⟨z, e1, rfl⟩ := e
      rw [VRs] at t
      obtain ⟨y, yr, rfl, t1, t2⟩ := t
      obtain ⟨a, b, c⟩ := strs_ok t2 e1
      refine ⟨by rw [t1.of_str.1, a]; rfl, by rw [b]; rfl, fun w hw => ?_⟩
      rcases List.mem_cons.mp hw with rfl | hw
      · exact t1.of_str.2
      · exact c w hw
    | _ => cases e
theorem ints_ok {ρ : Nat → Addr} {n : Nat} {H : Hp} : ∀ {vs : List Val} {xs : List L2.V} {zs : List Int}, VRs g ρ n H vs xs → intsV vs = some zs → xs = zs.map L2.V.int
  | [], xs, zs, t, e => by cases e; rw [VRs] at t; exact t
  | v :: vs, xs, zs, t, e => by
    cases v with
    | int x =>
      simp only [intsV, Option.map_eq_some_iff] at e
      obtain ⟨z, e1, rfl⟩ := e
      rw [VRs] at t
      obtain ⟨y, yr, rfl, t1, t2⟩ := t
      rw [t1.of_int, ints_ok t2 e1]; rfl
    | _ => cases e
theorem bls_ok {ρ : Nat → Addr} {n : Nat} {H : Hp} : ∀ {vs : List Val} {xs : List L2.V} {zs : List Bool}, VRs g ρ n H vs xs → blsV vs = some zs → xs = zs.map L2.V.bl
  | [], xs, zs, t, e => by cases e; rw [VRs] at t; exact t
  | v :: vs, xs, zs, t, e => by
    cases v with
    | bl x =>
      simp only [blsV, Option.map_eq_some_iff] at e
      obtain ⟨z, e1, rfl⟩ := e
      rw [VRs] at t
      obtain ⟨y, yr, rfl, t1, t2⟩ := t
      rw [t1.of_bl, bls_ok t2 e1]; rfl
    | _ => cases e
theorem VRs.strs {ρ : Nat → Addr} {n : Nat} {H : Hp} : ∀ {zs : List Str}, (∀ z ∈ zs, z.length ≤ sizeLine) → VRs g ρ n H (zs.map Val.str) (zs.map L2.V.str)
  | [], _ => by show VRs g ρ n H [] []; rw [VRs]
  | z :: zs, h => by
    rw [List.map_cons, List.map_cons, VRs]
    exact ⟨_, _, rfl, VR.str (h z List.mem_cons_self), VRs.strs fun w hw => h w (List.mem_cons_of_mem _ hw)⟩
def listOf (v : Val) (h : Heap) : Option (List Val) := match v with
  | .ref a => (match rd h a with
    | some (.lst xs) => some xs
    | _ => none)
  | _ => none
theorem listOf_ok {v : Val} {h : Heap} {vs : List Val} (e : listOf v h = some vs) : ∃ a, v = .ref a ∧ rd h a = some (.lst vs) := by
  cases v with
  | ref a =>
    unfold listOf at e
    dsimp only at e
    split at e
    · rename_i z; cases e; exact ⟨a, rfl, z⟩
    · cases e
  | _ => cases e
def keysS : List (Key × Val) → Option (List Str)
  | [] => some []
  | (.inr x, _) :: r => (keysS r).map (x :: ·)
  | _ => none
theorem keysS_ok : ∀ {kvs : List (Key × Val)} {ks : List Str}, keysS kvs = some ks → kvs.map (·.1) = ks.map Sum.inr
  | [], ks, e => by cases e; rfl
  | (.inr x, v) :: r, ks, e => by
    simp only [keysS, Option.map_eq_some_iff] at e
    obtain ⟨z, e1, rfl⟩ := e
    rw [List.map_cons, List.map_cons, keysS_ok e1]
  | (.inl x, v) :: r, ks, e => by cases e
def sortedV (v : Val) (h : Heap) : Rs Val := match v with
  | .ref a => (match rd h a with
    | some (.lst xs) => (match strsV xs with
      | some zs => if zs.length < 64 then al h (.lst ((sortS zs).map Val.str)) else .bad
      | none => .bad)
    | some (.dct kvs) => (match keysS kvs with
      | some zs => if zs.length < 64 then al h (.lst ((sortS zs).map Val.str)) else .bad
      | none => .bad)
    | _ => .bad)
  | .tup xs => (match strsV xs with
    | some zs => if zs.length < 64 then al h (.lst ((sortS zs).map Val.str)) else .bad
    | none => .bad)
  | _ => .bad
theorem bf_sorted : SoF1 g lv (.builtin "sorted") sortedV := by
  intro X W N sc G ρ h H σ v x Q r t q
  cases v with
  | ref a =>
    obtain ⟨_, rfl⟩ := t.of_ref
    cases z : rd h a with
    | none => simp only [sortedV, z] at q; exact q.elim
    | some c =>
      cases c with
      | ins _ _ => simp only [sortedV, z] at q; exact q.elim
      | lst vs =>
        simp only [sortedV, z] at q
        obtain ⟨xs, e1, e2, hz⟩ := r.lst z
        cases zs : strsV vs with
        | none => rw [zs] at q; exact q.elim
        | some ss =>
          rw [zs] at q
          obtain ⟨rfl, rfl, hs⟩ := strs_ok e2 zs
          by_cases hl : ss.length < 64
          · simp only [if_pos hl] at q
            refine cr_sortedS.se ⟨_, ss, rfl, by rw [G.hK]; exact e1, hl, fun ys p py sy hp => ?_⟩
            cases sorted_is py sy
            refine new_lst r ?_ (VRs.strs fun w hw => hs w ((sortS_perm ss).mem_iff.mp hw)) q p hp
            rw [List.length_map, (sortS_perm ss).length_eq]; exact small64 hl
          · simp only [if_neg hl] at q; exact q.elim
      | dct kvs =>
        simp only [sortedV, z] at q
        obtain ⟨xs, e1, e2, hz⟩ := r.dct z
        cases zs : keysS kvs with
        | none => rw [zs] at q; exact q.elim
        | some ss =>
          rw [zs] at q
          by_cases hl : ss.length < 64
          · simp only [if_pos hl] at q
            have ek := keysS_ok zs
            refine (call_sortedD G.calm).se ⟨_, xs, ss, rfl, e1, by rw [e2.keys]; exact ek, hl, fun ys p py sy hp => ?_⟩
            cases sorted_is py sy
            refine new_lst r ?_ (VRs.strs fun w hw => ?_) q p hp
            · rw [List.length_map, (sortS_perm ss).length_eq]; exact small64 hl
            · have hw' := (sortS_perm ss).mem_iff.mp hw
              have : (Sum.inr w : Key) ∈ kvs.map (·.1) := by rw [ek]; exact List.mem_map.mpr ⟨w, hw', rfl⟩
              obtain ⟨kv, hkv, e⟩ := List.mem_map.mp this
              have := hz.2 kv hkv
              rw [e] at this
              exact this
          · simp only [if_neg hl] at q; exact q.elim
  | tup vs =>
    simp only [sortedV] at q
    obtain ⟨a, xs, rfl, e1, e2⟩ := t.of_tup
    cases zs : strsV vs with
    | none => rw [zs] at q; exact q.elim
    | some ss =>
      rw [zs] at q
      obtain ⟨rfl, rfl, hs⟩ := strs_ok e2 zs
      by_cases hl : ss.length < 64
      · simp only [if_pos hl] at q
        refine cr_sortedTS.se ⟨_, ss, rfl, by rw [G.hK]; exact e1, hl, fun ys p py sy hp => ?_⟩
        cases sorted_is py sy
        refine new_lst r ?_ (VRs.strs fun w hw => hs w ((sortS_perm ss).mem_iff.mp hw)) q p hp
        rw [List.length_map, (sortS_perm ss).length_eq]; exact small64 hl
      · simp only [if_neg hl] at q; exact q.elim
  | _ => exact q.elim
def sumV (v : Val) (h : Heap) : Rs Val := match (listOf v h).bind intsV with
  | some zs => .ok (.int zs.sum) h
  | none => .bad
theorem bf_sum : SoF1 g lv (.builtin "sum") sumV := by
  intro X W N sc G ρ h H σ v x Q r t q
  unfold sumV at q
  cases z : (listOf v h).bind intsV with
  | none => rw [z] at q; exact q.elim
  | some zs =>
    rw [z] at q
    obtain ⟨vs, e1, e2⟩ := Option.bind_eq_some_iff.mp z
    obtain ⟨a, rfl, e3⟩ := listOf_ok e1
    obtain ⟨_, rfl⟩ := t.of_ref
    obtain ⟨xs, e4, e5, _⟩ := r.lst e3
    cases ints_ok e5 e2
    exact (cr_sum G.calm).se ⟨_, zs, rfl, by rw [G.hK]; exact e4, QR.ok (T := VR g) r VR.int q⟩
def allV (v : Val) (h : Heap) : Rs Val := match (listOf v h).bind blsV with
  | some zs => .ok (.bl (zs.all id)) h
  | none => .bad
theorem bf_all : SoF1 g lv (.builtin "all") allV := by
  intro X W N sc G ρ h H σ v x Q r t q
  unfold allV at q
  cases z : (listOf v h).bind blsV with
  | none => rw [z] at q; exact q.elim
  | some zs =>
    rw [z] at q
    obtain ⟨vs, e1, e2⟩ := Option.bind_eq_some_iff.mp z
    obtain ⟨a, rfl, e3⟩ := listOf_ok e1
    obtain ⟨_, rfl⟩ := t.of_ref
    obtain ⟨xs, e4, e5, _⟩ := r.lst e3
    cases bls_ok e5 e2
    exact (cr_all G.calm).se ⟨_, zs, rfl, by rw [G.hK]; exact e4, QR.ok (T := VR g) r VR.bl q⟩
def anyV (v : Val) (h : Heap) : Rs Val := match (listOf v h).bind blsV with
  | some zs => .ok (.bl (zs.any id)) h
  | none => .bad
theorem bf_any : SoF1 g lv (.builtin "any") anyV := by
  intro X W N sc G ρ h H σ v x Q r t q
  unfold anyV at q
  cases z : (listOf v h).bind blsV with
  | none => rw [z] at q; exact q.elim
  | some zs =>
    rw [z] at q
    obtain ⟨vs, e1, e2⟩ := Option.bind_eq_some_iff.mp z
    obtain ⟨a, rfl, e3⟩ := listOf_ok e1
    obtain ⟨_, rfl⟩ := t.of_ref
    obtain ⟨xs, e4, e5, _⟩ := r.lst e3
    cases bls_ok e5 e2
    exact (cr_any G.calm).se ⟨_, zs, rfl, by rw [G.hK]; exact e4, QR.ok (T := VR g) r VR.bl q⟩
inductive Ty where
  | b (n : String) | c (k : Nat)
  deriving DecidableEq
def tyOf (v : Val) (h : Heap) : Option Ty := match v with
  | .non => some (.b "NoneType")
  | .bl _ => some (.b "bool")
  | .int _ => some (.b "int")
  | .str _ => some (.b "str")
  | .tup _ => some (.b "tuple")
  | .ref a => (match rd h a with
    | some (.lst _) => some (.b "list")
    | some (.dct _) => some (.b "dict")
    | some (.ins c _) => some (.c c)
    | none => none)
  | _ => none
def Ty.v (g : G) : Ty → Value
  | .b n => .type n
  | .c k => .ref (g.C k)
/-- what isinstance asks of a class of one's own -/
structure InsTy (g : G) (c : Nat) : Prop where
  cl : L2.Cls g.K (g.C c)
  ha : PySem.W.findIn g.K (.ref (g.C c)) "__class__" = some (some (.builtin "object.__class__"))
  hn : PySem.W.specialIn g.K (.builtin "object.__class__") "__get__" = some (some (.builtin "getset_descriptor.__get__"))
  htk : PySem.W.takesIn g.K (.builtin "object.__class__") = some true
  hm : PySem.W.mroIn g.K (g.C c) (.type "object") = some true
def isiV (tt : Ty → Ty → Option Bool) (vs : List Val) (h : Heap) : Rs Val := match vs with
  | [v, .ty n] => (match tyOf v h with
    | some t => (match tt t (.b n) with
      | some b => .ok (.bl b) h
      | none => .bad)
    | none => .bad)
  | [v, .cls c] => (match tyOf v h with
    | some t => (match tt t (.c c) with
      | some b => .ok (.bl b) h
      | none => .bad)
    | none => .bad)
  | _ => .bad
structure TtOk (g : G) (tt : Ty → Ty → Option Bool) : Prop where
  ins : ∀ c u b, tt (.c c) u = some b → InsTy g c
  one : ∀ t u b, tt t u = some b → PySem.W.kitOne g.K (t.v g) (u.v g) = some b
theorem tyX_ok {ρ : Nat → Addr} {h : Heap} {H : Hp} (r : Rel g ρ h H) {v : Val} {x : L2.V} {t : Ty} (tv : VR g ρ h.length H v x) (e : tyOf v h = some t) (hi : ∀ c, t = .c c → InsTy g c) : TyX g.K H x (t.v g) := by
  cases v with
  | non => cases e; cases tv.of_non; exact .base .non
  | bl b => cases e; cases tv.of_bl; exact .base (.bl b)
  | int i => cases e; cases tv.of_int; exact .base (.int i)
  | str s => cases e; cases tv.of_str.1; exact .base (.str s)
  | tup vs =>
    cases e
    obtain ⟨a, xs, rfl, e1, _⟩ := tv.of_tup
    rcases e1 with (e1 | ⟨o, e1⟩) | ⟨o, its, n, e1, e2, _⟩
    · exact .base (.tup e1)
    · exact .fTuple e1
    · exact .kTuple e1 e2
  | ref a =>
    obtain ⟨_, rfl⟩ := tv.of_ref
    unfold tyOf at e
    dsimp only at e
    split at e
    · rename_i xs z
      cases e
      obtain ⟨ys, e1, _⟩ := r.lst z
      rcases e1 with (e1 | ⟨o, e1⟩) | ⟨o, its, n, e1, e2, _⟩
      · exact .base (.lst e1)
      · exact .base (.frz e1)
      · exact .kList e1 e2
    · rename_i xs z
      cases e
      obtain ⟨ys, e1, _⟩ := r.dct z
      rcases e1 with e1 | ⟨o, e1⟩
      · exact .base (.dK e1)
      · exact .fDict e1
    · rename_i c fs z
      cases e
      obtain ⟨dx, ys, e1, _⟩ := r.ins z
      have i := hi _ rfl
      exact .base (.ins e1 i.cl i.ha i.hn i.htk i.hm)
    · cases e
  | _ => cases e
theorem bf_isi {tt : Ty → Ty → Option Bool} (T : TtOk g tt) : SoF g lv (.builtin "isinstance") (isiV tt) := by
  intro X W N sc G ρ h H σ vs xs Q r t q
  match vs, q, t with
  | [v, .ty n], q, t =>
    rw [VRs] at t
    obtain ⟨x, xr, rfl, t1, t⟩ := t
    rw [VRs] at t
    obtain ⟨y, xr, rfl, t2, t⟩ := t
    rw [VRs] at t
    subst t
    simp only [isiV] at q
    cases z : tyOf v h with
    | none => rw [z] at q; exact q.elim
    | some ty =>
      rw [z] at q
      dsimp only at q
      cases zt : tt ty (.b n) with
      | none => rw [zt] at q; exact q.elim
      | some b =>
        rw [zt] at q
        rw [VR] at t2
        subst t2
        refine call_isi.se ⟨x, _, _, _, b, rfl, .ty n, by rw [G.hK]; exact tyX_ok r t1 z fun c e => T.ins c _ b (by rw [← e]; exact zt), by rw [G.hK]; exact T.one _ _ _ zt, QR.ok (T := VR g) r VR.bl q⟩
  | [v, .cls c], q, t =>
    rw [VRs] at t
    obtain ⟨x, xr, rfl, t1, t⟩ := t
    rw [VRs] at t
    obtain ⟨y, xr, rfl, t2, t⟩ := t
    rw [VRs] at t
    subst t
    simp only [isiV] at q
    cases z : tyOf v h with
    | none => rw [z] at q; exact q.elim
    | some ty =>
      rw [z] at q
      dsimp only at q
      cases zt : tt ty (.c c) with
      | none => rw [zt] at q; exact q.elim
      | some b =>
        rw [zt] at q
        rw [VR] at t2
        subst t2
        refine call_isi.se ⟨x, _, _, _, b, rfl, .own _, by rw [G.hK]; exact tyX_ok r t1 z fun c e => T.ins c _ b (by rw [← e]; exact zt), by rw [G.hK]; exact T.one _ _ _ zt, QR.ok (T := VR g) r VR.bl q⟩
  | [], q, _ => exact q.elim
  | [_], q, _ => exact q.elim
  | a :: b :: _ :: _, q, _ => cases b <;> exact q.elim
  | [_, .non], q, _ => exact q.elim
  | [_, .bl _], q, _ => exact q.elim
  | [_, .int _], q, _ => exact q.elim
  | [_, .str _], q, _ => exact q.elim
  | [_, .tup _], q, _ => exact q.elim
  | [_, .ref _], q, _ => exact q.elim
  | [_, .scr _], q, _ => exact q.elim
end
end MP
end
section
set_option autoImplicit false
set_option linter.all false
namespace MP
open PySem L2 PySem.Spec PyProof.Rows
inductive BK where
  | l | d | s
def BK.T : BK → String
  | .l => "list"
  | .d => "dict"
  | .s => "str"
def bkOf (v : Val) (h : Heap) : Option BK := match v with
  | .str _ => some .s
  | .ref a => (match h[a]? with
    | some (_, .lst _) => some .l
    | some (_, .dct _) => some .d
    | _ => none)
  | _ => none
abbrev Fm := Val → List Val → Heap → Rs Val
abbrev SMt (X : Cx) (id : String) : L2.V → List L2.V → Hp → VK → Prop := fun x xs H Q => ∀ (pins : List (Addr × Obj)) (s : Shared) (σ : L2.St) (v : Value) (us : List Value), Inv X pins σ H s → RelV x v → Vals xs us → wpAny (model X.prog X.w) X.A (call (.builtin id) (v :: us)) (EP X pins σ Q) X.xe s
theorem _root_.L2.MtR.se {X : Cx} {id : String} {r : L2.V → List L2.V → Hp → VK → Prop} (ho : MtR X id r) {x : L2.V} {xs : List L2.V} {H : Hp} {Q : VK} (h : r x xs H Q) : SMt X id x xs H Q := fun pins s σ v us I rx rs => ho pins s σ H x xs v us Q I rx rs h
section
variable {g : G} {lv : Nat} {N : List Str} {sc : Scope}
theorem bk_is {X : Cx} {pins : List (Addr × Obj)} {σ : L2.St} {s : Shared} {ρ : Nat → Addr} {h : Heap} {H : Hp} (I : Inv X pins σ H s) (hK : X.K = g.K) (r : Rel g ρ h H) {v : Val} {x : L2.V} {u : Value} {k : BK} (rx : RelV x u) (t : VR g ρ h.length H v x) (e : bkOf v h = some k) : s.TypeIs u k.T ∧ ∀ a, u = .ref a → ∃ ob, s.heap.get? a = some ob ∧ ob.dict = none := by
  cases v with
  | str z => cases e; cases t.of_str.1; exact tyV_is I rx rfl
  | ref a =>
    obtain ⟨_, rfl⟩ := t.of_ref
    cases z : h[a]? with
    | none => simp only [bkOf, z] at e; cases e
    | some c =>
      obtain ⟨b, c⟩ := c
      cases c with
      | lst vs =>
        simp only [bkOf, z] at e
        cases e
        obtain ⟨xs, e1, _⟩ := r.lst (i := a) (vs := vs) (by unfold rd; rw [z]; rfl)
        exact tyV_is I rx (.inl ⟨rfl, xs, by rw [hK]; exact e1⟩)
      | dct kvs =>
        simp only [bkOf, z] at e
        cases e
        obtain ⟨xs, e1, _⟩ := r.dct (i := a) (vs := kvs) (by unfold rd; rw [z]; rfl)
        cases (show u = Value.ref (ρ a) from rx)
        obtain ⟨q1, q2, _⟩ := isD_at I (.inl ⟨xs, e1⟩)
        exact ⟨q1, fun b eb => q2 b eb⟩
      | ins _ _ => simp only [bkOf, z] at e; cases e
  | _ => cases e
structure BmOk (g : G) (lv : Nat) (name : Str) (k : BK) (f : Fm) : Prop where
  ex : ∃ id : String, Slot k.T name id ∧ typeOf (.builtin id) = pure (.type "method_descriptor") ∧ ∀ (X : Cx) (W : WX) (N : List Str) (sc : Scope), Good g X N sc W lv → ∀ (ρ : Nat → Addr) (h : Heap) (H : Hp) (σ : L2.St) (v : Val) (vs : List Val) (x : L2.V) (xs : List L2.V) (Q : VK),
    Rel g ρ h H → VR g ρ h.length H v x → VRs g ρ h.length H vs xs → QR g (VR g) W ρ h H σ (f v vs h) Q → SMt X id x xs H Q
theorem bk_attrs : ∀ k : BK, PlainAttrs k.T
  | .l => PySem.F.plainAttrs_list
  | .d => PySem.F.plainAttrs_dict
  | .s => PySem.F.plainAttrs_str
def eBm (tab : BK → Option Fm) (fo : Fe) (fs : Env → Heap → Rs (List Val)) : Fe := fun env h => (fo env h).bind fun v h1 => match bkOf v h1 with
  | some k => (match tab k with
    | some f => (fs env h1).bind fun vs h2 => f v vs h2
    | none => .bad)
  | none => .bad
theorem few_ok {e : Expr} {es : List Expr} {cpos : Pos} {env : PySem.Env} (hs : (e :: es).all (fun e => !isSt e) = true) (hn : (e :: es).length < 29) : ((backTo cpos (starEach (e :: es) env)).all (fun x => !x.1) && (backToKw cpos (keywordEach [] env)).all (fun x => x.1.isSome)
      && decide ((e :: es).length + ([] : List Keyword).length + (if ([] : List Keyword).isEmpty then 0 else 1) < 30)) = true := by
  have h1 := noStar hs cpos env
  have h2 : (backTo cpos (starEach (e :: es) env)).all (fun x => !x.1) = true := by
    rw [List.all_eq_not_any_not]
    simp only [Bool.not_not]
    rw [h1]; rfl
  rw [h2]
  simp only [Bool.true_and, Bool.and_eq_true, decide_eq_true_eq]
  refine ⟨rfl, ?_⟩
  show (e :: es).length + 0 + 0 < 30
  omega
theorem so_bm {tab : BK → Option Fm} {name : Str} (T : ∀ k f, tab k = some f → BmOk g lv name k f) {fo : Fe} {fs : Env → Heap → Rs (List Val)} {o e : Expr} {es : List Expr} {apos pos : Pos} (hb : noSuper o = true) (hs : (e :: es).all (fun e => !isSt e) = true) (hn : (e :: es).length < 29) (hl : (apos.endLine == pos.line) = true)
    (ho : SoE g lv N sc fo o) (ha : SoA g lv N sc fs (e :: es)) : SoE g lv N sc (eBm tab fo fs) (.Call (.Attribute o name apos) (e :: es) [] pos) := by
  intro X W G ρ h H env σ Q r er q pins s I
  refine wpAny_Call_method_late (base_plain hb name X.env _) (few_ok hs hn) hl rfl (thn (ho X W G ρ h H env σ (fun x H1 => ∀ (s1 : Shared) (v : Value), Inv X pins σ H1 s1 → RelV x v → MethodOn X.prog X.w X.A name pos v (backTo pos (starEach (e :: es) X.env)) (EP X pins σ Q) X.xe s1) r er (QR.imp (QR.bind q) fun x H1 ⟨ρ1, h1, v, s1, r1, t1, _, q1⟩ => ?_) pins s I) fun u s1 ⟨x, H1, I1, rx, k1⟩ => k1 s1 u I1 rx)
  intro s1' u I1 rx
  cases zk : bkOf v h1 with
  | none => rw [zk] at q1; exact q1.elim
  | some k =>
    rw [zk] at q1
    dsimp only at q1
    cases zt : tab k with
    | none => rw [zt] at q1; exact q1.elim
    | some f =>
      rw [zt] at q1
      obtain ⟨id, slot, hty, hok⟩ := (T k f zt).ex
      obtain ⟨e1, e2⟩ := bk_is I1 G.hK r1 rx t1 zk
      refine ⟨k.T, id, bk_attrs k, slot, hty, e1, e2, ?_⟩
      have hA := ha X W G ρ1 h1 H1 env σ (fun xs H2 => ∀ (s : Shared), Inv X pins σ H2 s → ∀ us, Vals xs us → wpAny (model X.prog X.w) X.A (call (.builtin id) (u :: us)) (EP X pins σ Q) X.xe s) r1 (er.step r s1) (QR.imp (QR.bind q1) fun ys H2 ⟨ρ2, h2, vs, s2, r2, t2, _, q2⟩ => ?_) pos pins s1' I1
      · simp only [List.all_cons, Bool.and_eq_true, Bool.not_eq_true'] at hs
        have hst := starEach_plain hs.1 es X.env
        rw [hst] at hA ⊢
        refine Calls.callWith_builtin (by show (false || (backTo pos (starEach es X.env)).any (·.1)) = false; rw [noStar hs.2 pos X.env] <;> rfl) (Calls.evalArgs_plain ?_)
        exact thn hA fun us s2 ⟨vs, H2, I2, r2, q2⟩ => q2 s2 I2 us r2
      · intro s I us hu
        exact hok X W N sc G ρ2 h2 H2 σ v vs x ys Q r2 (t1.step r1 s2) t2 q2 pins s σ u us I rx hu
theorem so_bm0 {tab : BK → Option Fm} {name : Str} (T : ∀ k f, tab k = some f → BmOk g lv name k f) {fo : Fe} {o : Expr} {apos pos : Pos} (hb : noSuper o = true) (hl : (apos.endLine == pos.line) = true)
    (ho : SoE g lv N sc fo o) : SoE g lv N sc (eBm tab fo fun _ h => .ok [] h) (.Call (.Attribute o name apos) [] [] pos) := by
  intro X W G ρ h H env σ Q r er q pins s I
  refine wpAny_Call_method0_late (base_plain hb name X.env _) hl (thn (ho X W G ρ h H env σ (fun x H1 => ∀ (s1 : Shared) (v : Value), Inv X pins σ H1 s1 → RelV x v → MethodOn X.prog X.w X.A name pos v [] (EP X pins σ Q) X.xe s1) r er (QR.imp (QR.bind q) fun x H1 ⟨ρ1, h1, v, s1, r1, t1, _, q1⟩ => ?_) pins s I) fun u s1 ⟨x, H1, I1, rx, k1⟩ => k1 s1 u I1 rx)
  intro s1' u I1 rx
  cases zk : bkOf v h1 with
  | none => rw [zk] at q1; exact q1.elim
  | some k =>
    rw [zk] at q1
    dsimp only at q1
    cases zt : tab k with
    | none => rw [zt] at q1; exact q1.elim
    | some f =>
      rw [zt] at q1
      obtain ⟨id, slot, hty, hok⟩ := (T k f zt).ex
      obtain ⟨e1, e2⟩ := bk_is I1 G.hK r1 rx t1 zk
      refine ⟨k.T, id, bk_attrs k, slot, hty, e1, e2, Calls.callWith_builtin rfl (PySem.evalArgs_none ?_)⟩
      exact hok X W N sc G ρ1 h1 H1 σ v [] x [] Q r1 t1 (by rw [VRs]) q1 pins s1' σ u [] I1 rx .nil
def mAppend : Fm := fun v vs h => match v, vs with
  | .ref a, [y] => (match h[a]? with
    | some (false, .lst xs) => if xs.length < lim then .ok .non (h.set a (false, .lst (xs ++ [y]))) else .bad
    | _ => .bad)
  | _, _ => .bad
def mClearL : Fm := fun v vs h => match v, vs with
  | .ref a, [] => (match h[a]? with
    | some (false, .lst xs) => .ok .non (h.set a (false, .lst []))
    | _ => .bad)
  | _, _ => .bad
def mClearD : Fm := fun v vs h => match v, vs with
  | .ref a, [] => (match h[a]? with
    | some (false, .dct xs) => .ok .non (h.set a (false, .dct []))
    | _ => .bad)
  | _, _ => .bad
def mExtend : Fm := fun v vs h => match v, vs with
  | .ref a, [.ref b] => (match h[a]?, rd h b with
    | some (false, .lst xs), some (.lst ys) => if xs.length + ys.length ≤ lim then .ok .non (h.set a (false, .lst (xs ++ ys))) else .bad
    | _, _ => .bad)
  | _, _ => .bad
def mPop : Fm := fun v vs h => match v, vs with
  | .ref a, [] => (match h[a]? with
    | some (false, .lst xs) => (match xs[xs.length - 1]? with
      | some y => .ok y (h.set a (false, .lst xs.dropLast))
      | none => .bad)
    | _ => .bad)
  | .ref a, [.int i] => (match h[a]? with
    | some (false, .lst xs) => if -(2 ^ 63) ≤ i ∧ i < 2 ^ 63 then (match seqIndex? i xs.length with
      | some k => (match xs[k]? with
        | some y => .ok y (h.set a (false, .lst (xs.eraseIdx k)))
        | none => .bad)
      | none => .bad) else .bad
    | _ => .bad)
  | _, _ => .bad
def mGet : Fm := fun v vs h => match v, vs with
  | .ref a, [k, d] => (match h[a]? with
    | some (_, .dct kvs) => (match keyV k with
      | some k => .ok ((lookK kvs k).getD d) h
      | none => .bad)
    | _ => .bad)
  | _, _ => .bad
/-- a list or a tuple, as a row -/
def rowOf (v : Val) (h : Heap) : Option (List Val) := match v with
  | .tup xs => some xs
  | v => listOf v h
theorem rowOf_ok {ρ : Nat → Addr} {h : Heap} {H : Hp} (r : Rel g ρ h H) {v : Val} {x : L2.V} {vs : List Val} (t : VR g ρ h.length H v x) (e : rowOf v h = some vs) : ∃ p xs, x = V.ref p ∧ (SqT g.K H p xs ∨ SqL g.K H p xs) ∧ VRs g ρ h.length H vs xs := by
  cases v with
  | tup ws =>
    cases e
    obtain ⟨a, xs, rfl, e1, e2⟩ := t.of_tup
    exact ⟨a, xs, rfl, .inl e1, e2⟩
  | ref a =>
    obtain ⟨_, rfl⟩ := t.of_ref
    obtain ⟨b, e1, e2⟩ := listOf_ok (show listOf (.ref a) h = some vs from e)
    cases e1
    obtain ⟨xs, z1, z2, _⟩ := r.lst e2
    exact ⟨_, xs, rfl, .inr z1, z2⟩
  | _ => cases e
def mJoin : Fm := fun v vs h => match v, vs with
  | .str z, [y] => (match (rowOf y h).bind strsV with
    | some ys => if (ys.map (·.length)).sum + ys.length * z.length ≤ lim ∧ (Txt.join z ys).length ≤ lim then .ok (.str (Txt.join z ys)) h else .bad
    | none => .bad)
  | _, _ => .bad
def mSplit : Fm := fun v vs h => match v, vs with
  | .str z, [.str b] => if b.length ≠ 0 ∧ z.length + 2 ≤ lim ∧ (Txt.split z b).length ≤ lim ∧ ((Txt.split z b).all fun y => decide (y.length ≤ lim)) = true then al h (.lst ((Txt.split z b).map Val.str)) else .bad
  | _, _ => .bad
def mPartition : Fm := fun v vs h => match v, vs with
  | .str z, [.str b] => if b.length ≠ 0 ∧ (Txt.partition z b).1.length ≤ lim ∧ (Txt.partition z b).2.1.length ≤ lim ∧ (Txt.partition z b).2.2.length ≤ lim then .ok (.tup [.str (Txt.partition z b).1, .str (Txt.partition z b).2.1, .str (Txt.partition z b).2.2]) h else .bad
  | _, _ => .bad
theorem Rel.lset {ρ : Nat → Addr} {h : Heap} {H : Hp} (r : Rel g ρ h H) {a : Nat} {vs us : List Val} {xs : List L2.V} (e : h[a]? = some (false, .lst vs)) (hl : us.length ≤ sizeLine) (t : VRs g ρ h.length H us xs) : Stp ρ ρ h (h.set a (false, .lst us)) H (upd H (ρ a) (.lst xs)) ∧ Rel g ρ (h.set a (false, .lst us)) (upd H (ρ a) (.lst xs)) := by
  have st : Stp ρ ρ h (h.set a (false, .lst us)) H (upd H (ρ a) (.lst xs)) := Stp.write r e
  refine ⟨st, r.write e ⟨hl, xs, upd_same, ?_⟩⟩
  have := t.step r st
  rwa [List.length_set] at this
theorem VRs.dropLast {ρ : Nat → Addr} {n : Nat} {H : Hp} : ∀ {vs : List Val} {xs : List L2.V}, VRs g ρ n H vs xs → VRs g ρ n H vs.dropLast xs.dropLast
  | [], xs, t => by rw [VRs] at t; subst t; show VRs g ρ n H [] []; rw [VRs]
  | [v], xs, t => by
    rw [VRs] at t
    obtain ⟨x, r, rfl, _, t⟩ := t
    rw [VRs] at t
    subst t
    show VRs g ρ n H [] []; rw [VRs]
  | v :: u :: vs, xs, t => by
    rw [VRs] at t
    obtain ⟨x, r, rfl, t1, t⟩ := t
    have ih := VRs.dropLast t
    rw [VRs] at t
    obtain ⟨x', r', rfl, t2, t⟩ := t
    show VRs g ρ n H (v :: (u :: vs).dropLast) (x :: (x' :: r').dropLast)
    rw [VRs]
    exact ⟨x, _, rfl, t1, ih⟩
theorem VRs.eraseIdx {ρ : Nat → Addr} {n : Nat} {H : Hp} : ∀ {vs : List Val} {xs : List L2.V} (k : Nat), VRs g ρ n H vs xs → VRs g ρ n H (vs.eraseIdx k) (xs.eraseIdx k)
  | [], xs, k, t => by rw [VRs] at t; subst t; cases k <;> (show VRs g ρ n H [] []; rw [VRs])
  | v :: vs, xs, 0, t => by
    rw [VRs] at t
    obtain ⟨x, r, rfl, t1, t⟩ := t
    exact t
  | v :: vs, xs, k + 1, t => by
    rw [VRs] at t
    obtain ⟨x, r, rfl, t1, t⟩ := t
    show VRs g ρ n H (v :: vs.eraseIdx k) (x :: r.eraseIdx k)
    rw [VRs]
    exact ⟨x, _, rfl, t1, VRs.eraseIdx k t⟩
theorem VRs.one {ρ : Nat → Addr} {n : Nat} {H : Hp} {v : Val} {xs : List L2.V} (t : VRs g ρ n H [v] xs) : ∃ x, xs = [x] ∧ VR g ρ n H v x := by
  rw [VRs] at t
  obtain ⟨x, r, rfl, t1, t⟩ := t
  rw [VRs] at t
  subst t
  exact ⟨x, rfl, t1⟩
theorem VRs.zero {ρ : Nat → Addr} {n : Nat} {H : Hp} {xs : List L2.V} (t : VRs g ρ n H [] xs) : xs = [] := by rw [VRs] at t; exact t
theorem VRs.two {ρ : Nat → Addr} {n : Nat} {H : Hp} {v u : Val} {xs : List L2.V} (t : VRs g ρ n H [v, u] xs) : ∃ x y, xs = [x, y] ∧ VR g ρ n H v x ∧ VR g ρ n H u y := by
  rw [VRs] at t
  obtain ⟨x, r, rfl, t1, t⟩ := t
  obtain ⟨y, rfl, t2⟩ := t.one
  exact ⟨x, y, rfl, t1, t2⟩
theorem QR.to {ρ ρ' : Nat → Addr} {h h' : Heap} {H H' : Hp} {σ : L2.St} {W : WX} {v : Val} {x : L2.V} {Q : VK} (q : QR g (VR g) W ρ h H σ (.ok v h') Q) (st : Stp ρ ρ' h h' H H') (r : Rel g ρ' h' H') (t : VR g ρ' h'.length H' v x) : Q x H' := q ρ' H' x st r t
theorem bm_append : BmOk g lv "append" .l mAppend := by
  refine ⟨"list.append", PySem.F.slot_list_append, PySem.F.type_list_append, fun X W N sc G ρ h H σ v vs x xs Q r t ts q => ?_⟩
  unfold mAppend at q
  split at q
  · rename_i a y
    obtain ⟨_, rfl⟩ := t.of_ref
    obtain ⟨z, rfl, tz⟩ := ts.one
    split at q
    · rename_i us e
      split at q
      · rename_i hl
        obtain ⟨hz, ys, e1, e2⟩ := r.obj a false _ e
        have ht : VRs g ρ h.length H (us ++ [y]) (ys ++ [z]) := e2.append (by rw [VRs]; exact ⟨z, [], rfl, tz, by rw [VRs]⟩)
        obtain ⟨st, r'⟩ := r.lset e (by rw [List.length_append]; exact lim_le hl) ht
        refine MtR.se mt_append ⟨_, ys, z, rfl, rfl, e1, ?_, q.to st r' VR.non⟩
        rw [← e2.length]
        exact Nat.lt_of_lt_of_le hl (by decide)
      · exact q.elim
    · exact q.elim
  · exact q.elim
theorem bm_clearL : BmOk g lv "clear" .l mClearL := by
  refine ⟨"list.clear", PySem.F.slot_list_clear, PySem.F.type_list_clear, fun X W N sc G ρ h H σ v vs x xs Q r t ts q => ?_⟩
  unfold mClearL at q
  split at q
  · rename_i a
    obtain ⟨_, rfl⟩ := t.of_ref
    cases ts.zero
    split at q
    · rename_i us e
      obtain ⟨hz, ys, e1, e2⟩ := r.obj a false _ e
      obtain ⟨st, r'⟩ := r.lset (us := []) (xs := []) e (Nat.zero_le _) (by rw [VRs])
      exact MtR.se mt_clear ⟨_, ys, rfl, rfl, e1, q.to st r' VR.non⟩
    · exact q.elim
  · exact q.elim
theorem bm_clearD : BmOk g lv "clear" .d mClearD := by
  refine ⟨"dict.clear", PySem.F.slot_dict_clear, PySem.F.type_dict_clear, fun X W N sc G ρ h H σ v vs x xs Q r t ts q => ?_⟩
  unfold mClearD at q
  split at q
  · rename_i a
    obtain ⟨_, rfl⟩ := t.of_ref
    cases ts.zero
    split at q
    · rename_i us e
      obtain ⟨hz, ys, e1, e2⟩ := r.obj a false _ e
      have st : Stp ρ ρ h (h.set a (false, .dct [])) H (upd H (ρ a) (.dK [])) := Stp.write r e
      exact MtR.se mtd_clear ⟨_, ys, rfl, rfl, e1, q.to st (r.write e ⟨⟨Nat.zero_le _, fun p hp => absurd hp List.not_mem_nil⟩, [], upd_same, by rw [KR]⟩) VR.non⟩
    · exact q.elim
  · exact q.elim
theorem bm_extend : BmOk g lv "extend" .l mExtend := by
  refine ⟨"list.extend", PySem.F.slot_list_extend, PySem.F.type_list_extend, fun X W N sc G ρ h H σ v vs x xs Q r t ts q => ?_⟩
  unfold mExtend at q
  split at q
  · rename_i a b
    obtain ⟨_, rfl⟩ := t.of_ref
    obtain ⟨z, rfl, tz⟩ := ts.one
    obtain ⟨_, rfl⟩ := tz.of_ref
    split at q
    · rename_i us ws e e'
      split at q
      · rename_i hl
        obtain ⟨hz, ys, e1, e2⟩ := r.obj a false _ e
        obtain ⟨hz', ys', e1', e2'⟩ := r.lstE e'
        obtain ⟨st, r'⟩ := r.lset e (by rw [List.length_append]; exact lim_le hl) (e2.append e2')
        refine MtR.se mt_extend ⟨_, _, ys, ys', rfl, rfl, e1, e1', ?_, q.to st r' VR.non⟩
        rw [← e2.length, ← e2'.length]
        exact lim_le hl
      · exact q.elim
    · exact q.elim
  · exact q.elim
theorem bm_pop : BmOk g lv "pop" .l mPop := by
  refine ⟨"list.pop", PySem.F.slot_list_pop, PySem.F.type_list_pop, fun X W N sc G ρ h H σ v vs x xs Q r t ts q => ?_⟩
  unfold mPop at q
  split at q
  · rename_i a
    obtain ⟨_, rfl⟩ := t.of_ref
    cases ts.zero
    split at q
    · rename_i us e
      split at q
      · rename_i y ey
        obtain ⟨hz, ys, e1, e2⟩ := r.obj a false _ e
        obtain ⟨w, w1, w2⟩ := e2.get ey
        obtain ⟨st, r'⟩ := r.lset e (by rw [List.length_dropLast]; omega) e2.dropLast
        refine MtR.se mt_pop ⟨_, ys, w, rfl, rfl, e1, by rw [← e2.length]; exact w1, q.to st r' (by rw [List.length_set]; have := w2.step r st; rwa [List.length_set] at this)⟩
      · exact q.elim
    · exact q.elim
  · rename_i a i
    obtain ⟨_, rfl⟩ := t.of_ref
    obtain ⟨z, rfl, tz⟩ := ts.one
    cases tz.of_int
    split at q
    · rename_i us e
      split at q
      · rename_i hi
        split at q
        · rename_i k ek
          split at q
          · rename_i y ey
            obtain ⟨hz, ys, e1, e2⟩ := r.obj a false _ e
            obtain ⟨w, w1, w2⟩ := e2.get ey
            obtain ⟨st, r'⟩ := r.lset e (Nat.le_trans (List.length_eraseIdx_le _ _) hz) (e2.eraseIdx k)
            refine MtR.se mt_popAt ⟨_, ys, i, k, w, rfl, rfl, e1, hi.1, hi.2, by rw [← e2.length]; exact ek, w1, q.to st r' (by rw [List.length_set]; have := w2.step r st; rwa [List.length_set] at this)⟩
          · exact q.elim
        · exact q.elim
      · exact q.elim
    · exact q.elim
  · exact q.elim
theorem mt_dget2 {X : Cx} (hu : X.A.units + 1 < cLine) : MtR X "dict.get" (fun x xs H Q => ∃ a y d o, x = .ref a ∧ xs = [y, d] ∧ DGet H a y o ∧ Q (o.getD d) H) := by
  intro pins s σ H x xs v us Q I rx rs h
  obtain ⟨a, y, d, o, rfl, rfl, hg, q⟩ := h
  cases rx
  obtain ⟨u1, u2, rfl, r1, r2⟩ := vals2 rs
  exact d_get2 hu I hg r1 r2 fun w' s' I' rw' => ⟨_, H, I', rw', q⟩
theorem bm_get : BmOk g lv "get" .d mGet := by
  refine ⟨"dict.get", PySem.F.slot_dict_get, PySem.F.type_dict_get, fun X W N sc G ρ h H σ v vs x xs Q r t ts q => ?_⟩
  unfold mGet at q
  split at q
  · rename_i a k d
    obtain ⟨_, rfl⟩ := t.of_ref
    obtain ⟨y, z, rfl, ty, tz⟩ := ts.two
    split at q
    · rename_i b kvs e
      split at q
      · rename_i k' ek
        obtain ⟨o, hg, ho⟩ := so_dget G r (i := a) (kvs := kvs) (by unfold rd; rw [e]; rfl) ek ty
        refine MtR.se (mt_dget2 (hu1 G)) ⟨_, y, z, o, rfl, rfl, hg, ?_⟩
        rcases ho with ⟨e1, rfl⟩ | ⟨w, w', e1, rfl, tw⟩
        · rw [e1] at q; exact QR.ok (T := VR g) r tz q
        · rw [e1] at q; exact QR.ok (T := VR g) r tw q
      · exact q.elim
    · exact q.elim
  · exact q.elim
theorem lim16 {n : Nat} (h : n ≤ lim) : n ≤ 16777216 := Nat.le_trans h (by decide)
theorem bm_join : BmOk g lv "join" .s mJoin := by
  refine ⟨"str.join", PySem.F.slot_str_join, PySem.F.type_str_join, fun X W N sc G ρ h H σ v vs x xs Q r t ts q => ?_⟩
  unfold mJoin at q
  split at q
  · rename_i z y
    obtain ⟨rfl, _⟩ := t.of_str
    obtain ⟨x', rfl, tx⟩ := ts.one
    split at q
    · rename_i ys e
      split at q
      · rename_i hl
        obtain ⟨us, e1, e2⟩ := Option.bind_eq_some_iff.mp e
        obtain ⟨a, ws, rfl, e4, e5⟩ := rowOf_ok r tx e1
        obtain ⟨rfl, _, _⟩ := strs_ok e5 e2
        exact mt_join.se ⟨z, _, ys, rfl, rfl, (by rw [G.hK]; exact e4.symm), lim16 hl.1, QR.ok (T := VR g) r (VR.str (lim_le hl.2)) q⟩
      · exact q.elim
    · exact q.elim
  · exact q.elim
theorem bm_split : BmOk g lv "split" .s mSplit := by
  refine ⟨"str.split", PySem.F.slot_str_split, PySem.F.type_str_split, fun X W N sc G ρ h H σ v vs x xs Q r t ts q => ?_⟩
  unfold mSplit at q
  split at q
  · rename_i z b
    obtain ⟨rfl, _⟩ := t.of_str
    obtain ⟨x', rfl, tx⟩ := ts.one
    obtain ⟨rfl, _⟩ := tx.of_str
    split at q
    · rename_i hl
      obtain ⟨h1, h2, h3, h4⟩ := hl
      refine mt_split.se ⟨z, b, rfl, rfl, by simpa using h1, lim_le h2, fun p hp => ?_⟩
      refine new_lst r (by rw [List.length_map]; exact lim_le h3) (VRs.strs fun w hw => lim_le (of_decide_eq_true (List.all_eq_true.mp h4 w hw))) q p hp
    · exact q.elim
  · exact q.elim
theorem bm_partition : BmOk g lv "partition" .s mPartition := by
  refine ⟨"str.partition", PySem.F.slot_str_partition, PySem.F.type_str_partition, fun X W N sc G ρ h H σ v vs x xs Q r t ts q => ?_⟩
  unfold mPartition at q
  split at q
  · rename_i z b
    obtain ⟨rfl, hz⟩ := t.of_str
    obtain ⟨x', rfl, tx⟩ := ts.one
    obtain ⟨rfl, _⟩ := tx.of_str
    split at q
    · rename_i hl
      obtain ⟨h1, h2, h3, h4⟩ := hl
      refine mt_partition.se ⟨z, b, rfl, rfl, by simpa using h1, hz, fun p hp => ?_⟩
      refine new_tup r (by simp) ?_ q p hp
      rw [VRs]
      refine ⟨_, _, rfl, VR.str (lim_le h2), ?_⟩
      rw [VRs]
      refine ⟨_, _, rfl, VR.str (lim_le h3), ?_⟩
      rw [VRs]
      exact ⟨_, _, rfl, VR.str (lim_le h4), by rw [VRs]⟩
    · exact q.elim
  · exact q.elim
end
end MP
end
section
set_option autoImplicit false
set_option linter.all false
namespace MP
open PySem L2 PySem.Spec PyProof.Rows PyProof.V
def allO {α : Type} : List (Option α) → Option (List α)
  | [] => some []
  | some a :: r => (allO r).map (a :: ·)
  | none :: _ => none
/-- data without dicts -/
def toD (h : Heap) : Nat → Val → Option PyData
  | 0, _ => none
  | n + 1, v => (match v with
    | .non => some .none
    | .bl b => some (.bool b)
    | .int i => some (.int i)
    | .str x => some (.str x)
    | .tup vs => (allO (vs.map (toD h n))).map .tuple
    | .ref a => (match rd h a with
      | some (.lst vs) => (allO (vs.map (toD h n))).map .list
      | _ => none)
    | _ => none)
section
variable {g : G} {lv : Nat}
theorem toD_ok {ρ : Nat → Addr} {h : Heap} {H : Hp} (r : Rel g ρ h H) : ∀ (n : Nat) {v : Val} {x : L2.V} {d : PyData}, VR g ρ h.length H v x → toD h n v = some d → Dp g.K H x d
  | 0, v, x, d, _, e => by cases e
  | n + 1, v, x, d, t, e => by
    have all : ∀ {vs : List Val} {xs : List L2.V} {ds : List PyData}, VRs g ρ h.length H vs xs → allO (vs.map (toD h n)) = some ds → DpAll g.K H xs ds := fun {vs} => by
      induction vs with
      | nil => intro xs ds t e; cases e; rw [VRs] at t; subst t; exact .nil
      | cons v vs ih =>
        intro xs ds t e
        rw [VRs] at t
        obtain ⟨y, r', rfl, t1, t2⟩ := t
        rw [List.map_cons] at e
        cases z : toD h n v with
        | none => rw [z] at e; cases e
        | some d =>
          rw [z] at e
          obtain ⟨ds', e1, rfl⟩ := Option.map_eq_some_iff.mp e
          exact .cons (toD_ok r n t1 z) (ih t2 e1)
    cases v with
    | non => cases e; cases t.of_non; exact .non
    | bl b => cases e; cases t.of_bl; exact .bl b
    | int i => cases e; cases t.of_int; exact .int i
    | str s => cases e; cases t.of_str.1; exact .str s
    | tup vs =>
      obtain ⟨ds, e1, rfl⟩ := Option.map_eq_some_iff.mp (show (allO (vs.map (toD h n))).map PyData.tuple = some d from e)
      obtain ⟨a, xs, rfl, e2, e3⟩ := t.of_tup
      exact .tup e2 (all e3 e1)
    | ref a =>
      obtain ⟨_, rfl⟩ := t.of_ref
      simp only [toD] at e
      split at e
      · rename_i vs z
        obtain ⟨ds, e1, rfl⟩ := Option.map_eq_some_iff.mp e
        obtain ⟨xs, e2, e3, _⟩ := r.lst z
        exact .lst e2 (all e3 e1)
      · cases e
    | _ => cases e
def eqVal (v u : Val) (h : Heap) : Option Bool :=
  if flat v && flat u then some (eqF v u) else match toD h 9 v, toD h 9 u with
    | some d, some e => if SeqAt.shaped d && SeqAt.shaped e then some (PyData.eqv d e) else none
    | _, _ => none
def fd : Val → PyData
  | .bl b => .bool b
  | .int i => .int i
  | .str x => .str x
  | _ => .none
theorem eqv_fd {a b : Val} (fa : flat a = true) (fb : flat b = true) : PyData.eqv (fd a) (fd b) = eqF a b := by
  cases a <;> cases b <;> first | rfl | (exact absurd fa Bool.false_ne_true) | (exact absurd fb Bool.false_ne_true) | simp [fd, PyData.eqv, eqF]
theorem flat_at {ρ : Nat → Addr} {n : Nat} {H : Hp} {v : Val} {x : L2.V} {u : Value} (f : flat v = true) (t : VR g ρ n H v x) (r : RelV x u) : Flat u (fd v) := by
  cases v with
  | non => cases t.of_non; cases r; exact Flat.none
  | bl b => cases t.of_bl; cases r; exact Flat.bool b
  | int i => cases t.of_int; obtain ⟨t', rfl⟩ := r; exact Flat.int i t'
  | str s => cases t.of_str.1; obtain ⟨t', rfl⟩ := r; exact Flat.str s t'
  | _ => cases f
theorem eqVal_at {X : Cx} {W : WX} {N : List Str} {sc : Scope} (G : Good g X N sc W lv) {pins : List (Addr × Obj)} {s : Shared} {σ : L2.St} {ρ : Nat → Addr} {h : Heap} {H : Hp} (I : Inv X pins σ H s) (r : Rel g ρ h H) {v u : Val} {x y : L2.V} {vx vy : Value} {b : Bool}
    (tv : VR g ρ h.length H v x) (tu : VR g ρ h.length H u y) (rx : RelV x vx) (ry : RelV y vy) (e : eqVal v u h = some b) : SeqAt.EqAt X.A.in1 s vx vy b := by
  unfold eqVal at e
  split at e
  · rename_i hf
    rw [Bool.and_eq_true] at hf
    cases e
    rw [← eqv_fd hf.1 hf.2]
    exact PySem.W.keq_flat (flat_at hf.1 tv rx) (flat_at hf.2 tu ry)
  · split at e
    · rename_i d d' e1 e2
      split at e
      · rename_i hs
        rw [Bool.and_eq_true] at hs
        cases e
        have h1 := toD_ok r 9 tv e1
        have h2 := toD_ok r 9 tu e2
        rw [← G.hK] at h1 h2
        obtain ⟨as, r1⟩ := Dp.reads I _ _ _ h1 rx
        obtain ⟨bs, r2⟩ := Dp.reads I _ _ _ h2 ry
        exact PySem.W.keq_at r1 r2 hs.1 hs.2 (by have := G.room.un; show X.A.units + 1 + 64 < cLine; omega)
      · cases e
    · cases e
def eqDct (h : Heap) (kb : List (Key × Val)) : List (Key × Val) → Option Bool
  | [] => some true
  | (k, v) :: r => (match lookK kb k with
    | none => some false
    | some u => (match eqVal v u h, eqDct h kb r with
      | some e, some b => some (e && b)
      | _, _ => none))
def dctOf (v : Val) (h : Heap) : Option (List (Key × Val)) := match v with
  | .ref a => (match rd h a with
    | some (.dct kvs) => some kvs
    | _ => none)
  | _ => none
theorem dctOf_ok {v : Val} {h : Heap} {kvs : List (Key × Val)} (e : dctOf v h = some kvs) : ∃ a, v = .ref a ∧ rd h a = some (.dct kvs) := by
  cases v with
  | ref a =>
    unfold dctOf at e
    dsimp only at e
    split at e
    · rename_i z; cases e; exact ⟨a, rfl, z⟩
    · cases e
  | _ => cases e
def eqV (v u : Val) (h : Heap) : Option Bool := match dctOf v h, dctOf u h with
  | some ka, some kb => if ka.length = kb.length then eqDct h kb ka else some false
  | _, _ => eqVal v u h
theorem hits_ok {X : Cx} {W : WX} {N : List Str} {sc : Scope} (G : Good g X N sc W lv) {pins : List (Addr × Obj)} {s : Shared} {σ : L2.St} {ρ : Nat → Addr} {h : Heap} {H : Hp} (I : Inv X pins σ H s) (r : Rel g ρ h H) {kb : List (Key × Val)} {yb : List (Key × L2.V)} {vb : List (Key × Value)}
    (tb : KR g ρ h.length H kb yb) (rb : KV yb vb) : ∀ {ka : List (Key × Val)} {ya : List (Key × L2.V)} {va : List (Key × Value)} {b : Bool}, KR g ρ h.length H ka ya → KV ya va → eqDct h kb ka = some b → PySem.W.KeqHits X.A.in1 s vb va b
  | [], ya, va, b, ta, ra, e => by
    cases e
    rw [KR] at ta
    subst ta
    unfold KV at ra
    cases ra
    exact .nil
  | (k, v) :: ka, ya, va, b, ta, ra, e => by
    rw [KR] at ta
    obtain ⟨x, yr, rfl, t1, t2⟩ := ta
    unfold KV at ra
    cases ra with
    | @cons _ q _ vr hq hr =>
      obtain ⟨k', w'⟩ := q
      obtain ⟨e1, e2⟩ := hq
      cases (show k = k' from e1)
      unfold eqDct at e
      have hv := rb.val k
      rcases tb.look k with ⟨l1, l2⟩ | ⟨u, y, l1, l2, tu⟩
      · rw [l1] at e
        cases e
        rw [l2] at hv
        cases zv : valueAt vb k with
        | none => exact .miss zv
        | some z => rw [zv] at hv; exact hv.elim
      · rw [l1] at e
        dsimp only at e
        rw [l2] at hv
        cases zv : valueAt vb k with
        | none => rw [zv] at hv; exact hv.elim
        | some z =>
          rw [zv] at hv
          split at e
          · rename_i b1 b2 z1 z2
            cases e
            exact .hit zv (eqVal_at G I r t1 tu e2 hv z1) (hits_ok G I r tb rb t2 hr z2)
          · cases e
theorem flat_cmp {X : Cx} (hu : X.A.units + 64 < cLine) {a b : Val} {H : Hp} {Q : VK} (fa : flat a = true) (fb : flat b = true) : (Q (.bl (eqF a b)) H → SOp X (compareOp .Eq) (fv a) (fv b) H Q) ∧ (Q (.bl (!eqF a b)) H → SOp X (compareOp .NotEq) (fv a) (fv b) H Q) := by
  cases a <;> cases b <;> first
    | (exact absurd fa Bool.false_ne_true)
    | (exact absurd fb Bool.false_ne_true)
    | exact ⟨fun q => op_eq.se ⟨rfl, by simpa [fv, eqF, Bool.beq_eq_decide_eq] using q⟩, fun q => op_ne.se ⟨rfl, by simpa [fv, eqF, Bool.beq_eq_decide_eq] using q⟩⟩
    | exact ⟨fun q => (op_eqD hu).se ⟨_, _, .bl _, .int _, rfl, rfl, q⟩, fun q => (op_neD hu).se ⟨_, _, .bl _, .int _, rfl, rfl, q⟩⟩
    | exact ⟨fun q => (op_eqD hu).se ⟨_, _, .int _, .bl _, rfl, rfl, q⟩, fun q => (op_neD hu).se ⟨_, _, .int _, .bl _, rfl, rfl, q⟩⟩
theorem op_eqData {X : Cx} {W : WX} {N : List Str} {sc : Scope} (G : Good g X N sc W lv) {ρ : Nat → Addr} {h : Heap} {H : Hp} {σ0 : L2.St} {x y : Val} {vx vy : L2.V} {Q : VK} {b : Bool} (r : Rel g ρ h H) (tx : VR g ρ h.length H x vx) (ty : VR g ρ h.length H y vy) (e : eqV x y h = some b) :
    (Q (.bl b) H → SOp X (compareOp .Eq) vx vy H Q) ∧ (Q (.bl (!b)) H → SOp X (compareOp .NotEq) vx vy H Q) := by
  have hu : X.A.units + 64 < cLine := by have := G.room.un; omega
  have hu0 : X.A.units < cLine := by omega
  unfold eqV at e
  split at e
  · rename_i ka kb e1 e2
    obtain ⟨a, rfl, z1⟩ := dctOf_ok e1
    obtain ⟨a', rfl, z2⟩ := dctOf_ok e2
    obtain ⟨_, rfl⟩ := tx.of_ref
    obtain ⟨_, rfl⟩ := ty.of_ref
    obtain ⟨ya, h1, h2, _⟩ := r.dct z1
    obtain ⟨yb, h3, h4, _⟩ := r.dct z2
    have key : ∀ {pins : List (Addr × Obj)} {s : Shared} {σ : L2.St}, Inv X pins σ H s → ∃ (va vb : List (Key × Value)) (rr : Bool), (ρ a == sysModules) = false ∧ (ρ a' == sysModules) = false ∧ s.heap.DictOf (mixKind X.prog X.w) (ρ a) va ∧ s.heap.DictOf (mixKind X.prog X.w) (ρ a') vb ∧
        (va.length = vb.length → PySem.W.KeqHits X.A.in1 s vb va rr) ∧ (va.length == vb.length && rr) = b := fun {pins s σ} I => by
      obtain ⟨_, hd, va, ra, da⟩ := dk_rd I.hok h1
      obtain ⟨_, hd', vb, rb, db⟩ := dk_rd I.hok h3
      have la : ka.length = va.length := by rw [h2.length, ra.length]
      have lb : kb.length = vb.length := by rw [h4.length, rb.length]
      split at e
      · rename_i hl
        refine ⟨va, vb, b, hd, hd', da, db, fun _ => hits_ok G I r h4 rb h2 ra e, ?_⟩
        rw [← la, ← lb, hl]; simp
      · rename_i hl
        cases e
        refine ⟨va, vb, true, hd, hd', da, db, fun hh => absurd (by rw [la, lb]; exact hh) hl, ?_⟩
        rw [← la, ← lb]; simp [hl]
    refine ⟨fun q pins s σ v u I rx ry => ?_, fun q pins s σ v u I rx ry => ?_⟩
    · cases rx; cases ry
      obtain ⟨va, vb, rr, s1, s2, da, db, hits, hb⟩ := key I
      exact PySem.W.keq_eq s1 s2 da db hu0 hits (fin_bl I q hb.symm)
    · cases rx; cases ry
      obtain ⟨va, vb, rr, s1, s2, da, db, hits, hb⟩ := key I
      exact PySem.W.keq_ne s1 s2 da db hu0 hits (fin_bl I q (by rw [hb]))
  · unfold eqVal at e
    split at e
    · rename_i hf
      rw [Bool.and_eq_true] at hf
      cases e
      cases tx.flat hf.1
      cases ty.flat hf.2
      exact flat_cmp hu hf.1 hf.2
    · split at e
      · rename_i d d' e1 e2
        split at e
        · rename_i hs
          rw [Bool.and_eq_true] at hs
          cases e
          have h1 := toD_ok r 9 tx e1
          have h2 := toD_ok r 9 ty e2
          rw [← G.hK] at h1 h2
          exact ⟨fun q => (op_eqD hu).se ⟨d, d', h1, h2, hs.1, hs.2, q⟩, fun q => (op_neD hu).se ⟨d, d', h1, h2, hs.1, hs.2, q⟩⟩
        · cases e
      · cases e
end
end MP
end
section
set_option autoImplicit false
set_option linter.all false
namespace MP
open PySem L2 PySem.Spec PyProof.Rows PyProof.V
def sameR : Val → Val → Bool
  | .ref a, .ref b => a == b
  | _, _ => false
def eqI (v u : Val) (h : Heap) : Option Bool := if sameR v u then some true else eqV v u h
def eqIs (h : Heap) : List Val → List Val → Option Bool
  | v :: vs, u :: us => (match eqI v u h, eqIs h vs us with
    | some a, some b => some (a && b)
    | _, _ => none)
  | _, _ => some true
def lstOf (v : Val) (h : Heap) : Option (Nat × List Val) := match v with
  | .ref a => (match rd h a with
    | some (.lst vs) => some (a, vs)
    | _ => none)
  | _ => none
def eqLst (v u : Val) (h : Heap) : Option Bool := match lstOf v h, lstOf u h with
  | some (_, vs), some (_, us) => if vs.length = us.length then eqIs h vs us else none
  | _, _ => none
section
variable {g : G} {lv : Nat}
theorem lstOf_ok {v : Val} {h : Heap} {a : Nat} {vs : List Val} (e : lstOf v h = some (a, vs)) : v = .ref a ∧ rd h a = some (.lst vs) := by
  cases v with
  | ref b =>
    unfold lstOf at e
    dsimp only at e
    split at e
    · rename_i z; cases e; exact ⟨rfl, z⟩
    · cases e
  | _ => cases e
theorem eqVal_atA {X : Cx} {W : WX} {N : List Str} {sc : Scope} (G : Good g X N sc W lv) {A : Around} (hu : A.units + 70 < cLine) {pins : List (Addr × Obj)} {s : Shared} {σ : L2.St} {ρ : Nat → Addr} {h : Heap} {H : Hp} (I : Inv X pins σ H s) (r : Rel g ρ h H) {v u : Val} {x y : L2.V} {vx vy : Value} {b : Bool}
    (tv : VR g ρ h.length H v x) (tu : VR g ρ h.length H u y) (rx : RelV x vx) (ry : RelV y vy) (e : eqVal v u h = some b) : SeqAt.EqAt A s vx vy b := by
  unfold eqVal at e
  split at e
  · rename_i hf
    rw [Bool.and_eq_true] at hf
    cases e
    rw [← eqv_fd hf.1 hf.2]
    exact PySem.W.keq_flat (flat_at hf.1 tv rx) (flat_at hf.2 tu ry)
  · split at e
    · rename_i d d' e1 e2
      split at e
      · rename_i hs
        rw [Bool.and_eq_true] at hs
        cases e
        have h1 := toD_ok r 9 tv e1
        have h2 := toD_ok r 9 tu e2
        rw [← G.hK] at h1 h2
        obtain ⟨as, r1⟩ := Dp.reads I _ _ _ h1 rx
        obtain ⟨bs, r2⟩ := Dp.reads I _ _ _ h2 ry
        exact (PySem.W.keq_at (A := A) r1 r2 hs.1 hs.2 (by show A.units + 1 + 64 < cLine; omega)).of_in1
      · cases e
    · cases e
theorem hits_okA {X : Cx} {W : WX} {N : List Str} {sc : Scope} (G : Good g X N sc W lv) {A : Around} (hu : A.units + 70 < cLine) {pins : List (Addr × Obj)} {s : Shared} {σ : L2.St} {ρ : Nat → Addr} {h : Heap} {H : Hp} (I : Inv X pins σ H s) (r : Rel g ρ h H) {kb : List (Key × Val)} {yb : List (Key × L2.V)} {vb : List (Key × Value)}
    (tb : KR g ρ h.length H kb yb) (rb : KV yb vb) : ∀ {ka : List (Key × Val)} {ya : List (Key × L2.V)} {va : List (Key × Value)} {b : Bool}, KR g ρ h.length H ka ya → KV ya va → eqDct h kb ka = some b → PySem.W.KeqHitsIn X.prog X.w A s vb va b
  | [], ya, va, b, ta, ra, e => by
    cases e
    rw [KR] at ta
    subst ta
    unfold KV at ra
    cases ra
    exact .nil
  | (k, v) :: ka, ya, va, b, ta, ra, e => by
    rw [KR] at ta
    obtain ⟨x, yr, rfl, t1, t2⟩ := ta
    unfold KV at ra
    cases ra with
    | @cons _ q _ vr hq hr =>
      obtain ⟨k', w'⟩ := q
      obtain ⟨e1, e2⟩ := hq
      cases (show k = k' from e1)
      unfold eqDct at e
      have hv := rb.val k
      rcases tb.look k with ⟨l1, l2⟩ | ⟨u, y, l1, l2, tu⟩
      · rw [l1] at e
        cases e
        rw [l2] at hv
        cases zv : valueAt vb k with
        | none => exact .miss zv
        | some z => rw [zv] at hv; exact hv.elim
      · rw [l1] at e
        dsimp only at e
        rw [l2] at hv
        cases zv : valueAt vb k with
        | none => rw [zv] at hv; exact hv.elim
        | some z =>
          rw [zv] at hv
          split at e
          · rename_i b1 b2 z1 z2
            cases e
            exact .hit zv ((eqVal_atA G hu I r t1 tu e2 hv z1).inModel _ _) (hits_okA G hu I r tb rb t2 hr z2)
          · cases e
/-- an item of a list -/
theorem eqI_at {X : Cx} {W : WX} {N : List Str} {sc : Scope} (G : Good g X N sc W lv) {A : Around} (hu : A.units + 80 < cLine) {pins : List (Addr × Obj)} {s : Shared} {σ : L2.St} {ρ : Nat → Addr} {h : Heap} {H : Hp} (I : Inv X pins σ H s) (r : Rel g ρ h H) {v u : Val} {x y : L2.V} {vx vy : Value} {b : Bool}
    (tv : VR g ρ h.length H v x) (tu : VR g ρ h.length H u y) (rx : RelV x vx) (ry : RelV y vy) (e : eqI v u h = some b) : SeqAt.EqIn X.prog X.w A s vx vy b := by
  unfold eqI at e
  split at e
  · rename_i hs
    cases e
    cases v with
    | ref a =>
      cases u with
      | ref a' =>
        obtain rfl : a = a' := by simpa [sameR] using hs
        obtain ⟨_, rfl⟩ := tv.of_ref
        obtain ⟨_, rfl⟩ := tu.of_ref
        cases rx; cases ry
        exact (SeqAt.EqAt.same _).inModel _ _
      | _ => cases hs
    | _ => cases hs
  · rename_i hs
    unfold eqV at e
    split at e
    · rename_i ka kb e1 e2
      obtain ⟨a, rfl, z1⟩ := dctOf_ok e1
      obtain ⟨a', rfl, z2⟩ := dctOf_ok e2
      obtain ⟨la, rfl⟩ := tv.of_ref
      obtain ⟨lb, rfl⟩ := tu.of_ref
      obtain ⟨ya, h1, h2, _⟩ := r.dct z1
      obtain ⟨yb, h3, h4, _⟩ := r.dct z2
      cases rx; cases ry
      have hne : ρ a ≠ ρ a' := fun z => hs (by
        have := r.inj a a' la lb z
        subst this
        simp [sameR])
      obtain ⟨_, hd, va, ra, da⟩ := dk_rd I.hok h1
      obtain ⟨_, hd', vb, rb, db⟩ := dk_rd I.hok h3
      have la' : ka.length = va.length := by rw [h2.length, ra.length]
      have lb' : kb.length = vb.length := by rw [h4.length, rb.length]
      refine SeqAt.EqIn.of_refs hne fun E Q hq => ?_
      split at e
      · rename_i hl
        refine PySem.W.keq_eqIn hd hd' da db (by omega) (fun _ => hits_okA G (by show A.units + 1 + 70 < cLine; omega) I r h4 rb h2 ra e) ?_
        rw [← la', ← lb', hl]
        simpa using hq
      · rename_i hl
        cases e
        refine PySem.W.keq_eqIn (r := true) hd hd' da db (by omega) (fun hh => absurd (by rw [la', lb']; exact hh) hl) ?_
        rw [← la', ← lb', show (ka.length == kb.length) = false by simpa using hl]
        exact hq
    · exact (eqVal_atA G (by omega) I r tv tu rx ry e).inModel _ _
theorem eqIs_at {X : Cx} {W : WX} {N : List Str} {sc : Scope} (G : Good g X N sc W lv) {A : Around} (hu : A.units + 80 < cLine) {pins : List (Addr × Obj)} {s : Shared} {σ : L2.St} {ρ : Nat → Addr} {h : Heap} {H : Hp} (I : Inv X pins σ H s) (r : Rel g ρ h H) : ∀ {vs us : List Val} {xs ys : List L2.V} {ws zs : List Value} {b : Bool},
    vs.length = us.length → VRs g ρ h.length H vs xs → VRs g ρ h.length H us ys → Vals xs ws → Vals ys zs → eqIs h vs us = some b → ∃ e : Nat → Bool, (List.range ws.length).all e = b ∧ ∀ j (h1 : j < ws.length) (h2 : j < zs.length), SeqAt.EqIn X.prog X.w A s ws[j] zs[j] (e j)
  | [], [], xs, ys, ws, zs, b, hl, t1, t2, r1, r2, e => by
    rw [VRs] at t1
    subst t1
    cases r1
    cases e
    exact ⟨fun _ => true, rfl, fun j h1 => absurd h1 (Nat.not_lt_zero _)⟩
  | [], u :: us, _, _, _, _, _, hl, _, _, _, _, _ => by cases hl
  | v :: vs, [], _, _, _, _, _, hl, _, _, _, _, _ => by cases hl
  | v :: vs, u :: us, xs, ys, ws, zs, b, hl, t1, t2, r1, r2, e => by
    rw [VRs] at t1 t2
    obtain ⟨x, xr, rfl, t1, t1'⟩ := t1
    obtain ⟨y, yr, rfl, t2, t2'⟩ := t2
    unfold eqIs at e
    cases z1 : eqI v u h with
    | none => rw [z1] at e; cases e
    | some b1 =>
      cases z2 : eqIs h vs us with
      | none => rw [z1, z2] at e; cases e
      | some b2 =>
        rw [z1, z2] at e
        cases e
        cases r1 with
        | @cons _ w _ wr a1 a2 =>
          cases r2 with
          | @cons _ z _ zr c1 c2 =>
            obtain ⟨f, f1, f2⟩ := eqIs_at G hu I r (by simpa using hl) t1' t2' a2 c2 z2
            refine ⟨fun j => match j with | 0 => b1 | j + 1 => f j, ?_, fun j h1 h2 => ?_⟩
            · rw [List.length_cons, List.range_succ_eq_map, List.all_cons, List.all_map, ← f1]
              rfl
            · cases j with
              | zero => exact eqI_at G hu I r t1 t2 a1 c1 z1
              | succ j => exact f2 j (by simpa using h1) (by simpa using h2)
theorem op_eqLst {X : Cx} {W : WX} {N : List Str} {sc : Scope} (G : Good g X N sc W lv) {ρ : Nat → Addr} {h : Heap} {H : Hp} {x y : Val} {vx vy : L2.V} {Q : VK} {b : Bool} (r : Rel g ρ h H) (tx : VR g ρ h.length H x vx) (ty : VR g ρ h.length H y vy) (e : eqLst x y h = some b) :
    Q (.bl b) H → SOp X (compareOp .Eq) vx vy H Q := by
  have hu : X.A.units + 90 < cLine := by have := G.room.un; omega
  intro q pins s σ v u I rx ry
  unfold eqLst at e
  split at e
  · rename_i a vs a' us e1 e2
    obtain ⟨rfl, z1⟩ := lstOf_ok e1
    obtain ⟨rfl, z2⟩ := lstOf_ok e2
    split at e
    · rename_i hl
      obtain ⟨la, rfl⟩ := tx.of_ref
      obtain ⟨lb, rfl⟩ := ty.of_ref
      obtain ⟨xs, s1, t1, _⟩ := r.lst z1
      obtain ⟨ys, s2, t2, _⟩ := r.lst z2
      rw [← G.hK] at s1 s2
      cases rx; cases ry
      obtain ⟨ws, r1, p1, _⟩ := I.list s1
      obtain ⟨zs, r2, p2, _⟩ := I.list s2
      have l1 : vs.length = ws.length := by rw [t1.length, r1.length]
      have l2 : us.length = zs.length := by rw [t2.length, r2.length]
      obtain ⟨f, f1, f2⟩ := eqIs_at G (A := X.A.in1) (by show X.A.units + 1 + 80 < cLine; omega) I r hl t1 t2 r1 r2 e
      refine SeqAt.rcIn_lists (e := f) p1.isList p2.isList (by rw [List.size_toArray, List.size_toArray, ← l1, ← l2, hl]) (by omega) (fun j h1 h2 => ?_) ?_
      · have := f2 j (by simpa using h1) (by simpa using h2)
        simpa using this
      · rw [List.size_toArray, f1]
        exact ⟨.bl b, H, I, rfl, q⟩
    · cases e
  · cases e
end
end MP
end
section
set_option autoImplicit false
set_option linter.all false
namespace MP
open PySem L2 PySem.Spec PyProof.Rows
open PySem.W in
theorem ne_body {prog : Program} {w : World} {A : Around} {E : Value → Shared → Prop} {s : Shared} {K : Frag} {x C f : Addr} {ox : Obj} {od : Option Obj} {b : Value} {Q : Fin → Shared → Prop} (hu : A.units < cLine) (X : K.In s.heap) (I : InstAt s.heap x ox C od)
    (he : findIn K (.ref C) "__eq__" = some (some (.ref f))) (hf : isFn K (.ref f) = true)
    (h : wpAny (model prog w) A (call (.ref f) [.ref x, b]) (fun v s' => ∃ k, v = .bool k ∧ Q (.done (.ret (.bool (!k)))) s') E s) : wpAny (model prog w) A (Builtin.«object.__ne__» ⟨[.ref x, b], []⟩) Q E s := by
  unfold Builtin.«object.__ne__»
  repeat (first
    | with_reducible refine wpAny_cRoomFor hu ?_
    | (refine wpAny_bind (m := callSpecialIfBound? (.ref x) (Str.ofString "__eq__") [b])
        (ifBound_K X I he hf (wpAny_mono h (fun r s' hr => by
          obtain ⟨k, rfl, hq⟩ := hr
          repeat (first | exact hq | exact wpAny_pure hq | exact wpAny_truthy_bool hq | (refine wpAny_bind (m := truthy (.bool _)) (wpAny_truthy_bool ?_)) | wp_step)) fun _ _ e => e)))
    | wp_step)
open PySem.W in
theorem ne_K {prog : Program} {w : World} {A : Around} {E : Value → Shared → Prop} {s : Shared} {K : Frag} {x C L f : Addr} {h₀ : PySem.Heap} {m : Str → Option Value} {ox : Obj} {od : Option Obj} {b tb : Value} {Q : Value → Shared → Prop} (hu : A.units + 1 < cLine) (F : Fr h₀ L s.heap m) (X₀ : K.In h₀) (I : InstAt s.heap x ox C od) (hb : Looks (model prog w) s.heap (typeOf b) tb) (hn : notFirst K C tb = true)
    (hs : findIn K (.ref C) "__ne__" = some (some (.builtin "object.__ne__"))) (he : findIn K (.ref C) "__eq__" = some (some (.ref f))) (hf : isFn K (.ref f) = true) (hm : mroIn K C (.type "object") = some true)
    (h : wpAny (model prog w) A.in1 (call (.ref f) [.ref x, b]) (fun v s' => ∃ k, v = .bool k ∧ Q (.bool (!k)) s') E s) : wpAny (model prog w) A (richCompare .NotEq (.ref x) b) Q E s := by
  have X := X₀.keeps F.keep
  have body : wpAny (model prog w) A (call (.builtin "object.__ne__") [.ref x, b]) (fun v s' => ∃ k, v = .bool k ∧ Q (.bool k) s') E s := by
    refine wpAny_call (codeAny_call_builtin PySem.F.cmp_object.ne.plain PySem.F.cmpEntry_ne (check_slot PySem.F.cmpKind_ne PySem.F.cmpSplit_ne ?_ (PySem.F.cmpArgs_ne _ _) ?_))
    · unfold isInstance
      exact I.type.andThen (looks_mroIn X hm)
    · refine ne_body (A := A.in1) hu X I he hf (wpAny_mono h (fun v s' hv => ?_) fun _ _ e => e)
      obtain ⟨k, rfl, hq⟩ := hv
      exact ⟨k, rfl, ⟨!k, rfl, hq⟩⟩
  have one : wpAny (model prog w) A (tryCompare (.ref x) "__ne__" b) (fun r s' => ∃ v, r = some v ∧ Q v s') E s := by
    unfold tryCompare
    refine wpAny_bind ?_
    simp only [callSpecialIfBound?, bindSpecialIfBound?]
    refine wpAny_holding (wpAny_bind (wpAny_bind (wpAny_bind (I.type.here ((looks_findIn X hs).here ?_)))))
    simp only [PySem.F.cmp_object.ne.bind]
    refine wpAny_bind (wpAny_askSetting (wpAny_ite ?_))
    have fin : wpAny (model prog w) A (call (.builtin "object.__ne__") ([.ref x] ++ [b]) >>= fun v => pure (some v)) (fun r s' => wpAny (model prog w) A (match r with | some .notImplemented => pure none | none => pure none | some v => pure (some v)) (fun r s' => ∃ v, r = some v ∧ Q v s') E s') E s :=
      wpAny_bind (wpAny_mono body (fun v s' ⟨k, hk, q⟩ => wpAny_pure (by subst hk; exact wpAny_pure ⟨_, rfl, q⟩)) fun _ _ h' => h')
    split
    · exact wpAny_bind (wpAny_pure (wpAny_pure fin))
    · exact wpAny_tryCatch (wpAny_bind (wpAny_pure (wpAny_pure fin)))
  unfold richCompare
  simp only [oneThing_ref]
  refine wpAny_holding (wpAny_bind (wpAny_cRoomFor (by omega) ?_))
  refine wpAny_bind (I.type.here (wpAny_bind (hb.here ?_)))
  split
  · rename_i q
    have e : subIn K tb (.ref C) = some false := by
      rcases Bool.or_eq_true_iff.mp hn with e | e
      · rw [beq_iff_eq.mp e] at q; simp at q
      · exact beq_iff_eq.mp e
    refine wpAny_bind ((looks_subIn X e).here ?_)
    simp only [Bool.false_eq_true, if_false]
    refine wpAny_bind (wpAny_mono one (fun r s' z => ?_) fun _ _ e => e)
    obtain ⟨v, rfl, hq⟩ := z
    exact wpAny_pure hq
  · refine wpAny_bind (wpAny_pure ?_)
    simp only [Bool.false_eq_true, if_false]
    refine wpAny_bind (wpAny_mono one (fun r s' z => ?_) fun _ _ e => e)
    obtain ⟨v, rfl, hq⟩ := z
    exact wpAny_pure hq
section
variable {g : G} {lv : Nat}
theorem run_callA {X : Cx} {W : WX} {N : List Str} {sc : Scope} (G : Good g X N sc W lv) {A : Around} {k np : Nat} (hr : Room k A) (hfr : A.frames = X.A.frames) {cf : List Val → Heap → Rs Val} {f : Addr} {fd : FuncData} {ps : List Str} {dv : List Val} (D : DOk g k np cf f fd ps) (V : DV g fd ps dv)
    {pins : List (Addr × Obj)} {s : Shared} {ρ : Nat → Addr} {h : Heap} {H : Hp} {σ : L2.St} {args : List Val} {vs : List L2.V} {us : List Value} {Q : VK} (I : Inv X pins σ H s) (r : Rel g ρ h H) (t : VRs g ρ h.length H args vs) (hu : Vals vs us) (hn : (args ++ dv).length = np)
    (q : QR g (VR g) W ρ h H σ (cf (args ++ dv) h) Q) : wpAny (model X.prog X.w) A (call (.ref f) us) (EP X pins σ Q) X.xe s := by
  obtain ⟨ds, dvs, b, hd, hv⟩ := V.ex
  have F := G.fn D.fn
  have hq := spF_of r (t.append (hv ρ h.length H)) hn q
  have r2 : Vals (vs ++ dvs) (us ++ ds) := hu.append hd
  have hl : (us ++ ds).length = ps.length := by rw [← r2.length]; exact F.len _ _ _ _ hq
  have e0 : Env0 X.prog X.w X.K X.mg X.base A X.stack s H := by
    have e := I.env0
    exact ⟨by rw [hfr]; exact e.frames, e.mod, e.bs, e.bsz, e.funs, e.frf, e.hok, e.bare⟩
  refine wpAny_call (codeAny_mono (F.run A X.stack s H ⟨us, []⟩ (us ++ ds) (vs ++ dvs) Q (WE W σ) hr e0 ((by rw [G.hK]; exact b : Binds X.K fd ps ds) s us I.kIn hl) r2 hq) fun r s' hq => ?_)
  cases r with
  | error e => exact passAt G.tk σ pins H s e s' I hq
  | ok fl =>
    cases fl with
    | ret u => exact I.after hq
    | next => exact False.elim hq
    | brk => exact False.elim hq
    | cont => exact False.elim hq
structure OEq (g : G) (lv : Nat) (c : Nat) (i : MI) : Prop where
  no : PySem.W.mroIn g.K (g.C c) (.type "str") = some false ∧ PySem.W.mroIn g.K (g.C c) (.type "tuple") = some false
  ex : ∃ (k : Nat) (f : Addr) (fd : FuncData) (ps : List Str), k + 1 ≤ lv ∧ PySem.W.findIn g.K (.ref (g.C c)) "__eq__" = some (some (.ref f)) ∧ PySem.W.isFn g.K (.ref f) = true ∧ PySem.W.findIn g.K (.ref (g.C c)) "__ne__" = some (some (.builtin "object.__ne__")) ∧
    PySem.W.mroIn g.K (g.C c) (.type "object") = some true ∧ DOk g k i.np i.cf f fd ps ∧ DV g fd ps i.dv
/-- right operands' types -/
structure NfOk (g : G) (nf : Nat → Ty → Bool) : Prop where
  ok : ∀ c t, nf c t = true → PySem.W.notFirst g.K (g.C c) (t.v g) = true
  ins : ∀ c k, nf c (.c k) = true → InsTy g k
def ownEq (oeq : Nat → Option MI) (nf : Nat → Ty → Bool) (sg : Bool) (c : Nat) (x y : Val) (h : Heap) : Rs Val := match oeq c, tyOf y h with
  | some i, some t => if nf c t ∧ ([x, y] ++ i.dv).length = i.np then (i.cf ([x, y] ++ i.dv) h).bind fun v h1 => (match v with
    | .bl b => .ok (.bl (b != sg)) h1
    | _ => .bad) else .bad
  | _, _ => .bad
/-- a tuple and a text, whatever the tuple holds -/
def tsEq (sg : Bool) (x y : Val) (h : Heap) : Rs Val := match sg, x, y with
  | false, .tup _, .str _ => .ok (.bl false) h
  | _, _, _ => .bad
theorem co_ts {X : Cx} {W : WX} {N : List Str} {sc : Scope} (G : Good g X N sc W lv) {ρ : Nat → Addr} {h : Heap} {H : Hp} {σ : L2.St} {x y : Val} {vx vy : L2.V} {Q : VK} (r : Rel g ρ h H) (tx : VR g ρ h.length H x vx) (ty : VR g ρ h.length H y vy) (q : QR g (VR g) W ρ h H σ (tsEq false x y h) Q) :
    ∀ (pins : List (Addr × Obj)) (s : Shared) (v u : Value), Inv X pins σ H s → RelV vx v → RelV vy u → wpAny (model X.prog X.w) X.A (compareOp .Eq v u) (EP X pins σ Q) X.xe s := by
  cases x with
  | tup vs =>
    cases y with
    | str z =>
      have q' : Q (.bl false) H := QR.ok (T := VR g) r VR.bl q
      obtain ⟨a, xs, rfl, e1, e2⟩ := tx.of_tup
      cases ty.of_str.1
      intro pins s v u I rx ry
      cases rx
      obtain ⟨t, rfl⟩ := ry
      obtain ⟨its, rv, tp, hz⟩ := I.tuple (by rw [G.hK]; exact e1)
      show wpAny _ _ (richCompare .Eq _ _) _ _ _
      exact SeqAt.RcAt.tuple_str z t (show s.heap.IsTuple a its.toArray from tp) (by have := G.room.un; omega) X.prog X.w _ _ ⟨.bl false, H, I, rfl, q'⟩
    | _ => exact False.elim q
  | _ => exact False.elim q
def eqOp (oeq : Nat → Option MI) (nf : Nat → Ty → Bool) (sg : Bool) (x y : Val) (h : Heap) : Rs Val := match insOf x h with
  | some (c, _) => ownEq oeq nf sg c x y h
  | none => (match eqV x y h with
    | some b => .ok (.bl (b != sg)) h
    | none => (match sg, eqLst x y h with
      | false, some b => .ok (.bl b) h
      | _, _ => tsEq sg x y h))
theorem looks_ty {X : Cx} {W : WX} {N : List Str} {sc : Scope} (G : Good g X N sc W lv) {pins : List (Addr × Obj)} {s : Shared} {σ : L2.St} {ρ : Nat → Addr} {h : Heap} {H : Hp} (I : Inv X pins σ H s) (r : Rel g ρ h H) {v : Val} {x : L2.V} {u : Value} {t : Ty} (tv : VR g ρ h.length H v x) (rx : RelV x u) (e : tyOf v h = some t) (hi : ∀ c, t = .c c → InsTy g c) (M : Model) :
    PySem.W.Looks M s.heap (typeOf u) (t.v g) := by
  have ty := tyX_ok r tv e hi
  rw [← G.hK] at ty
  obtain ⟨P, Z, p, _⟩ := kit_of I rx ty
  exact Z.ty M s.heap I.kIn p
theorem co_own {oeq : Nat → Option MI} {nf : Nat → Ty → Bool} (T : ∀ c i, oeq c = some i → OEq g lv c i) (Nf : NfOk g nf) (X : Cx) (W : WX) (N : List Str) (sc : Scope) (G : Good g X N sc W lv) (ρ : Nat → Addr) (h : Heap) (H : Hp) (σ : L2.St) (x y : Val) (vx vy : L2.V) (Q : VK) (sg : Bool) (c : Nat) (fl : List (Str × Val)) (r : Rel g ρ h H) (tx : VR g ρ h.length H x vx) (ty : VR g ρ h.length H y vy)
    (hx : insOf x h = some (c, fl)) (q : QR g (VR g) W ρ h H σ (ownEq oeq nf sg c x y h) Q) : ∀ (pins : List (Addr × Obj)) (s : Shared) (v u : Value), Inv X pins σ H s → RelV vx v → RelV vy u → wpAny (model X.prog X.w) X.A (compareOp (if sg then .NotEq else .Eq) v u) (EP X pins σ Q) X.xe s := by
  intro pins s v u I rx ry
  obtain ⟨a, rfl, za⟩ := insOf_ok hx
  obtain ⟨_, rfl⟩ := tx.of_ref
  obtain ⟨dx, xs, e1, e2⟩ := r.ins za
  cases rx
  unfold ownEq at q
  split at q
  · rename_i i t zo zt
    split at q
    · rename_i hc
      obtain ⟨k, f, fd, ps, hk, hfe, hfn, hne, hmro, D, V⟩ := (T c i zo).ex
      obtain ⟨mA, J, _⟩ := ins_get I.hok e1
      obtain ⟨od, J, _⟩ := J.look
      obtain ⟨m, hF⟩ := I.fr
      have L := looks_ty G I r ty ry zt (fun k' e => Nf.ins c k' (by rw [← e]; exact hc.1)) (model X.prog X.w)
      have nfk := Nf.ok c t hc.1
      rw [← G.hK] at nfk hfe hfn hne hmro
      have tv : VRs g ρ h.length H [Val.ref a, y] [L2.V.ref (ρ a), vy] := by
        rw [VRs]; refine ⟨_, _, rfl, tx, ?_⟩; rw [VRs]; exact ⟨_, _, rfl, ty, by rw [VRs]⟩
      have back : ∀ (b : L2.V) (H1 : Hp), (∃ ρ1 h1 a', Stp ρ ρ1 h h1 H H1 ∧ Rel g ρ1 h1 H1 ∧ VR g ρ1 h1.length H1 a' b ∧ i.cf ([Val.ref a, y] ++ i.dv) h = .ok a' h1 ∧ QR g (VR g) W ρ1 h1 H1 σ (match a' with
          | .bl b => .ok (.bl (b != sg)) h1
          | _ => .bad) Q) → ∃ b', b = .bl b' ∧ Q (.bl (b' != sg)) H1 := fun b H1 ⟨ρ1, h1, a', st, r1, t1, _, q1⟩ => by
        cases a' with
        | bl b' => exact ⟨b', t1.of_bl, QR.ok (T := VR g) r1 VR.bl q1⟩
        | _ => exact q1.elim
      have q' := QR.imp (QR.bind (T := VR g) q) fun b H1 z => back b H1 z
      cases sg with
      | false =>
        refine PySem.W.cmp_K (op := .Eq) (by have := G.room.un; omega) hF I.ok.mod.kin J L nfk hfe hfn ?_
        refine wpAny_mono (run_callA G (G.room.mono (by omega)) rfl D V I r tv (.cons rfl (.cons ry .nil)) hc.2 q') (fun v s' hv => ?_) fun _ _ e => e
        obtain ⟨b, H', I', rb, b', rfl, hq⟩ := hv
        cases rb
        exact ⟨.bl b', H', I', rfl, by simpa using hq⟩
      | true =>
        refine ne_K (by have := G.room.un; omega) hF I.ok.mod.kin J L nfk hne hfe hfn hmro ?_
        have hr1 : Room k X.A.in1 := (G.room.mono hk).in1
        refine wpAny_mono (run_callA G (A := X.A.in1) hr1 rfl D V I r tv (.cons rfl (.cons ry .nil)) hc.2 q') (fun v s' hv => ?_) fun _ _ e => e
        obtain ⟨b, H', I', rb, b', rfl, hq⟩ := hv
        cases rb
        exact ⟨b', rfl, ⟨.bl (!b'), H', I', rfl, by simpa using hq⟩⟩
    · exact q.elim
  · exact q.elim
abbrev SOpS (X : Cx) (f : Value → Value → Sem Value) (σ : L2.St) : R2 := fun x y H Q => ∀ (pins : List (Addr × Obj)) (s : Shared) (v u : Value), Inv X pins σ H s → RelV x v → RelV y u → wpAny (model X.prog X.w) X.A (f v u) (EP X pins σ Q) X.xe s
/-- an operation that may call -/
def SoOS (g : G) (lv : Nat) (f : Value → Value → Sem Value) (op : Val → Val → Heap → Rs Val) : Prop :=
  ∀ (X : Cx) (W : WX) (N : List Str) (sc : Scope), Good g X N sc W lv → ∀ (ρ : Nat → Addr) (h : Heap) (H : Hp) (σ : L2.St) (x y : Val) (vx vy : L2.V) (Q : VK), Rel g ρ h H → VR g ρ h.length H x vx → VR g ρ h.length H y vy → QR g (VR g) W ρ h H σ (op x y h) Q → SOpS X f σ vx vy H Q
theorem SoO.p {f : Value → Value → Sem Value} {op : Val → Val → Heap → Rs Val} (h : SoO g lv f op) : SoOS g lv f op := fun X W N sc G ρ h' H σ x y vx vy Q r tx ty q pins s v u I rx ry => h X W N sc G ρ h' H σ x y vx vy Q r tx ty q pins s σ v u I rx ry
theorem co_eq {oeq : Nat → Option MI} {nf : Nat → Ty → Bool} (T : ∀ c i, oeq c = some i → OEq g lv c i) (Nf : NfOk g nf) : SoOS g lv (compareOp .Eq) (eqOp oeq nf false) := by
  intro X W N sc G ρ h H σ x y vx vy Q r tx ty q
  unfold eqOp at q
  split at q
  · rename_i c fl hx
    exact co_own T Nf X W N sc G ρ h H σ x y vx vy Q false c fl r tx ty hx q
  · rename_i hx
    cases z : eqV x y h with
    | none =>
      rw [z] at q
      dsimp only at q
      cases z2 : eqLst x y h with
      | none => rw [z2] at q; exact co_ts G r tx ty q
      | some b =>
        rw [z2] at q
        have := QR.ok (T := VR g) r VR.bl q
        exact fun pins s v u I rx ry => op_eqLst G r tx ty z2 this pins s σ v u I rx ry
    | some b =>
      rw [z] at q
      have := QR.ok (T := VR g) r VR.bl q
      exact fun pins s v u I rx ry => (op_eqData (σ0 := σ) G r tx ty z).1 (by simpa using this) pins s σ v u I rx ry
theorem co_ne {oeq : Nat → Option MI} {nf : Nat → Ty → Bool} (T : ∀ c i, oeq c = some i → OEq g lv c i) (Nf : NfOk g nf) : SoOS g lv (compareOp .NotEq) (eqOp oeq nf true) := by
  intro X W N sc G ρ h H σ x y vx vy Q r tx ty q
  unfold eqOp at q
  split at q
  · rename_i c fl hx
    exact co_own T Nf X W N sc G ρ h H σ x y vx vy Q true c fl r tx ty hx q
  · rename_i hx
    cases z : eqV x y h with
    | none => rw [z] at q; dsimp only at q; exact False.elim q
    | some b =>
      rw [z] at q
      have := QR.ok (T := VR g) r VR.bl q
      exact fun pins s v u I rx ry => (op_eqData (σ0 := σ) G r tx ty z).2 (by simpa using this) pins s σ v u I rx ry
structure OBin (g : G) (lv : Nat) (op : Operator) (c : Nat) (i : MI) : Prop where
  ex : ∃ (k : Nat) (f : Addr) (fd : FuncData) (ps : List Str), k ≤ lv ∧ PySem.W.findIn g.K (.ref (g.C c)) (PySem.dunder op.info.2) = some (some (.ref f)) ∧ PySem.W.isFn g.K (.ref f) = true ∧ PySem.W.selfFirst g.K (g.C c) = true ∧
    InsTy g c ∧ DOk g k i.np i.cf f fd ps ∧ DV g fd ps i.dv
def ownBin (ob : Nat → Option MI) (base : Val → Val → Heap → Rs Val) (x y : Val) (h : Heap) : Rs Val := match insOf x h with
  | some (c, _) => (match insOf y h, ob c with
    | some (c', _), some i => if c' = c ∧ ([x, y] ++ i.dv).length = i.np then i.cf ([x, y] ++ i.dv) h else .bad
    | _, _ => .bad)
  | none => base x y h
theorem insOf_ty {v : Val} {h : Heap} {c : Nat} {fs : List (Str × Val)} (e : insOf v h = some (c, fs)) : tyOf v h = some (.c c) := by
  obtain ⟨a, rfl, z⟩ := insOf_ok e
  unfold tyOf
  simp only [z]
theorem bo_own {op : Operator} {ob : Nat → Option MI} {base : Val → Val → Heap → Rs Val} (T : ∀ c i, ob c = some i → OBin g lv op c i) (B : SoOS g lv (binaryOp op) base) : SoOS g lv (binaryOp op) (ownBin ob base) := by
  intro X W N sc G ρ h H σ x y vx vy Q r tx ty q
  unfold ownBin at q
  split at q
  · rename_i c fl hx
    split at q
    · rename_i c' fl' i hy zo
      split at q
      · rename_i hc
        obtain ⟨rfl, hn⟩ := hc
        intro pins s v u I rx ry
        obtain ⟨k, f, fd, ps, hk, hfe, hfn, hsf, hIT, D, V⟩ := (T c' i zo).ex
        have L := looks_ty G I r ty ry (insOf_ty hy) (fun k' e => by cases e; exact hIT) (model X.prog X.w)
        obtain ⟨a, rfl, za⟩ := insOf_ok hx
        obtain ⟨_, rfl⟩ := tx.of_ref
        obtain ⟨dx, xs, e1, e2⟩ := r.ins za
        cases rx
        obtain ⟨mA, J, _⟩ := ins_get I.hok e1
        obtain ⟨od, J, _⟩ := J.look
        obtain ⟨m, hF⟩ := I.fr
        rw [← G.hK] at hfe hfn hsf
        have tv : VRs g ρ h.length H [Val.ref a, y] [L2.V.ref (ρ a), vy] := by
          rw [VRs]; refine ⟨_, _, rfl, tx, ?_⟩; rw [VRs]; exact ⟨_, _, rfl, ty, by rw [VRs]⟩
        refine PySem.W.binop_K hF I.ok.mod.kin J L hsf hfe hfn ?_
        refine wpAny_mono (run_callA G (G.room.mono hk) rfl D V I r tv (.cons rfl (.cons ry .nil)) hn q) (fun v s' hv => ?_) fun _ _ e => e
        cases v <;> first
          | exact hv
          | (obtain ⟨b, H', I', rb, hq⟩ := hv
             cases b <;> first | exact nomatch rb | (obtain ⟨_, z⟩ := rb; exact nomatch z))
      · exact q.elim
    · exact q.elim
  · exact B X W N sc G ρ h H σ x y vx vy Q r tx ty q
variable {N : List Str} {sc : Scope}
theorem sp_bin {op : Operator} {fo : Val → Val → Heap → Rs Val} {fa fb : Fe} {ea eb : Expr} {pos : Pos} (ho : SoOS g lv (binaryOp op) fo) (ha : SoE g lv N sc fa ea) (hb : SoE g lv N sc fb eb) :
    SoE g lv N sc (fun env h => (fa env h).bind fun x h1 => (fb env h1).bind fun y h2 => fo x y h2) (.BinOp ea op eb pos) := by
  intro X W G ρ h H env σ Q r e q pins s I
  refine wpAny_BinOp (binT (self_e X ea) (self_e X eb) (R := fun x y H2 => SOpS X (binaryOp op) σ x y H2 Q) I ?_ fun v u s2 x y H2 I2 rx ry q => q pins s2 v u I2 rx ry)
  refine ha X W G ρ h H env σ _ r e (QR.imp (QR.bind q) fun vx H1 ⟨ρ1, h1, x, s1, r1, t1, _, q1⟩ => ?_)
  refine hb X W G ρ1 h1 H1 env σ _ r1 (e.step r s1) (QR.imp (QR.bind q1) fun vy H2 ⟨ρ2, h2, y, s2, r2, t2, _, q2⟩ => ?_)
  exact ho X W N sc G ρ2 h2 H2 σ x y vx vy Q r2 (t1.step r1 s2) t2 q2
theorem sp_cmp {op : CmpOp} {fo : Val → Val → Heap → Rs Val} {fa fb : Fe} {ea eb : Expr} {pos : Pos} (hm : behindInMarks op eb = false) (ho : SoOS g lv (compareOp op) fo) (ha : SoE g lv N sc fa ea) (hb : SoE g lv N sc fb eb) :
    SoE g lv N sc (fun env h => (fa env h).bind fun x h1 => (fb env h1).bind fun y h2 => fo x y h2) (.Compare ea [op] [eb] pos) := by
  intro X W G ρ h H env σ Q r e q pins s I
  refine wpAny_Compare1 (binT (self_e X ea) (self_e X eb) (R := fun x y H2 => SOpS X (compareOp op) σ x y H2 Q) I ?_ fun v u s2 x y H2 I2 rx ry q => q pins s2 v u I2 rx ry) hm
  refine ha X W G ρ h H env σ _ r e (QR.imp (QR.bind q) fun vx H1 ⟨ρ1, h1, x, s1, r1, t1, _, q1⟩ => ?_)
  refine hb X W G ρ1 h1 H1 env σ _ r1 (e.step r s1) (QR.imp (QR.bind q1) fun vy H2 ⟨ρ2, h2, y, s2, r2, t2, _, q2⟩ => ?_)
  exact ho X W N sc G ρ2 h2 H2 σ x y vx vy Q r2 (t1.step r1 s2) t2 q2
theorem tp_cmp {op : CmpOp} {fo : Val → Val → Heap → Rs Val} {fa fb : Fe} {ea eb : Expr} {pos : Pos} (hm : behindInMarks op eb = false) (ho : SoOS g lv (compareOp op) fo) (ha : SoE g lv N sc fa ea) (hb : SoE g lv N sc fb eb) :
    SoT g lv N sc (fun env h => eBl ((fa env h).bind fun x h1 => (fb env h1).bind fun y h2 => fo x y h2)) (.Compare ea [op] [eb] pos) := by
  intro X W G ρ h H env σ Q r e q pins s I
  refine wpAny_isTrue_Compare1 (binT (self_e X ea) (self_e X eb) (R := fun x y H2 => SOpS X (compareOp op) σ x y H2 fun b H3 => ∃ k, b = .bl k ∧ Q k H3) I ?_ fun v u s2 x y H2 I2 rx ry q => thn (q pins s2 v u I2 rx ry) fun c s3 ⟨z, H3, I3, r3, k, e, q3⟩ => ?_) hm
  · have q' := QR.bind (T := VR g) q
    refine ha X W G ρ h H env σ _ r e (QR.imp (QR.bind q') fun vx H1 ⟨ρ1, h1, x, s1, r1, t1, _, q1⟩ => ?_)
    refine hb X W G ρ1 h1 H1 env σ _ r1 (e.step r s1) (QR.imp (QR.bind q1) fun vy H2 ⟨ρ2, h2, y, s2, r2, t2, _, q2⟩ => ?_)
    refine ho X W N sc G ρ2 h2 H2 σ x y vx vy _ r2 (t1.step r1 s2) t2 (QR.imp q2 fun b H3 ⟨ρ3, h3, v, s3, r3, t3, _, q3⟩ => ?_)
    cases v with
    | bl k => exact ⟨k, t3.of_bl, QR.ok (T := fun _ _ _ a b => a = b) r3 rfl q3⟩
    | _ => exact q3.elim
  · subst e
    cases r3
    exact wpAny_truthy_bool ⟨H3, I3, q3⟩
def eChain (fo fo' : Val → Val → Heap → Rs Val) (fa fb fc : Fe) : Fe := fun env h => (fa env h).bind fun x h1 => (fb env h1).bind fun y h2 => (fo x y h2).bind fun z h3 => match z with
  | .bl true => (fc env h3).bind fun w h4 => fo' y w h4
  | .bl false => .ok (.bl false) h3
  | _ => .bad
theorem chain_go {op op' : CmpOp} {fo fo' : Val → Val → Heap → Rs Val} {fa fb fc : Fe} {ea eb ec : Expr} (ho : SoO g lv (compareOp op) fo) (ho' : SoO g lv (compareOp op') fo') (ha : SoE g lv N sc fa ea) (hb : SoE g lv N sc fb eb) (hc : SoE g lv N sc fc ec)
    (X : Cx) (W : WX) (G : Good g X N sc W lv) (ρ : Nat → Addr) (h : Heap) (H : Hp) (env : Env) (σ : L2.St) (Q : VK) (r : Rel g ρ h H) (e : ER g ρ h.length H env σ) (q : QR g (VR g) W ρ h H σ (eChain fo fo' fa fb fc env h) Q) :
    tChain (SOp X (compareOp op)) (SOp X (compareOp op')) (SE X ea) (SE X eb) (SE X ec) σ H Q := by
  refine ha X W G ρ h H env σ _ r e (QR.imp (QR.bind q) fun vx H1 ⟨ρ1, h1, x, s1, r1, t1, _, q1⟩ => ?_)
  refine hb X W G ρ1 h1 H1 env σ _ r1 (e.step r s1) (QR.imp (QR.bind q1) fun vy H2 ⟨ρ2, h2, y, s2, r2, t2, _, q2⟩ => ?_)
  refine ho X W N sc G ρ2 h2 H2 σ x y vx vy _ r2 (t1.step r1 s2) t2 (QR.imp (QR.bind q2) fun b H3 ⟨ρ3, h3, z, s3, r3, t3, _, q3⟩ => ?_)
  cases z with
  | bl k =>
    refine ⟨k, t3.of_bl, ?_⟩
    cases k with
    | true =>
      rw [if_pos rfl]
      refine hc X W G ρ3 h3 H3 env σ _ r3 (((e.step r s1).step r1 s2).step r2 s3) (QR.imp (QR.bind q3) fun vw H4 ⟨ρ4, h4, w, s4, r4, t4, _, q4⟩ => ?_)
      exact ho' X W N sc G ρ4 h4 H4 σ y w vy vw Q r4 ((t2.step r2 s3).step r3 s4) t4 q4
    | false =>
      rw [if_neg Bool.false_ne_true]
      exact QR.ok (T := VR g) r3 VR.bl q3
  | _ => exact q3.elim
theorem so_chain {op op' : CmpOp} {fo fo' : Val → Val → Heap → Rs Val} {fa fb fc : Fe} {ea eb ec : Expr} {pos : Pos} (hm : lastMarks [op, op'] [eb, ec] = false) (ho : SoO g lv (compareOp op) fo) (ho' : SoO g lv (compareOp op') fo') (ha : SoE g lv N sc fa ea) (hb : SoE g lv N sc fb eb) (hc : SoE g lv N sc fc ec) :
    SoE g lv N sc (eChain fo fo' fa fb fc) (.Compare ea [op, op'] [eb, ec] pos) := by
  intro X W G ρ h H env σ Q r e q
  exact (pe_chain (self_op X _) (self_op X _) (self_e X ea) (self_e X eb) (self_e X ec) hm).se (chain_go ho ho' ha hb hc X W G ρ h H env σ Q r e q)
theorem st_chain {op op' : CmpOp} {fo fo' : Val → Val → Heap → Rs Val} {fa fb fc : Fe} {ea eb ec : Expr} {pos : Pos} (hm : lastMarks [op, op'] [eb, ec] = false) (ho : SoO g lv (compareOp op) fo) (ho' : SoO g lv (compareOp op') fo') (ha : SoE g lv N sc fa ea) (hb : SoE g lv N sc fb eb) (hc : SoE g lv N sc fc ec) :
    SoT g lv N sc (fun env h => eBl (eChain fo fo' fa fb fc env h)) (.Compare ea [op, op'] [eb, ec] pos) := by
  intro X W G ρ h H env σ Q r e q
  refine (pt_chain (self_op X _) (self_op X _) (self_e X ea) (self_e X eb) (self_e X ec) hm).se (chain_go ho ho' ha hb hc X W G ρ h H env σ _ r e (QR.imp (QR.bind (T := VR g) q) fun b H3 ⟨ρ3, h3, v, s3, r3, t3, _, q3⟩ => ?_))
  cases v with
  | bl k => exact ⟨k, t3.of_bl, QR.ok (T := fun _ _ _ a b => a = b) r3 rfl q3⟩
  | _ => exact q3.elim
def negV (v : Val) (h : Heap) : Rs Val := match v with
  | .int i => .ok (.int (-i)) h
  | _ => .bad
theorem so_neg {fa : Fe} {ea : Expr} {pos : Pos} (ha : SoE g lv N sc fa ea) : SoE g lv N sc (fun env h => (fa env h).bind negV) (.UnaryOp .USub ea pos) := by
  intro X W G ρ h H env σ Q r e q
  refine (pe_un un_neg (self_e X ea)).se ?_
  refine ha X W G ρ h H env σ _ r e (QR.imp (QR.bind q) fun vx H1 ⟨ρ1, h1, x, s1, r1, t1, _, q1⟩ => ?_)
  cases x with
  | int i => exact ⟨i, t1.of_int, QR.ok (T := VR g) r1 VR.int q1⟩
  | _ => exact q1.elim
end
end MP
end
section
set_option autoImplicit false
set_option linter.all false
namespace MP
open PySem L2 PySem.Spec PyProof.Rows
section
variable {g : G} {lv : Nat} {N : List Str} {sc : Scope}
theorem vals_of_items {kvs : List (Key × L2.V)} {vs : List (Key × Value)} (kv : KV kvs vs) : Vals (kvs.map (·.2)) (vs.map (·.2)) := by
  unfold KV at kv
  induction kv with
  | nil => exact .nil
  | cons h t ih => exact .cons h.2 ih
def tListVals (te : TE) : TE := fun σ H Q => te σ H fun x H1 => ∃ (d : Addr) (kvs : List (Key × L2.V)), x = .ref d ∧ Rd H1 d (.dK kvs) ∧ ∀ p, H1 p = none → Q (.ref p) (upd H1 p (.lst (kvs.map (·.2))))
theorem pe_listVals {X : Cx} {e : Expr} {te : TE} {p apos cpos pos : Pos} (hc : X.calm = true) (he : PE X e te) (hg : Gl X "list") (hm : X.mg "list" = none) (hv : bootBuiltins "list" = some (.type "list")) (hbase : attributeBase e "values" X.env (PySem.eval e X.env) = PySem.eval e X.env) (hline : (apos.endLine == cpos.line) = true) :
    PE X (.Call (.Name "list" p) [.Call (.Attribute e "values" apos) [] [] cpos] [] pos) (tListVals te) := by
  refine ⟨fun pins s σ H Q I hq => ?_⟩
  have hs : starEach [.Call (.Attribute e "values" apos) [] [] cpos] X.env = (false, PySem.eval (.Call (.Attribute e "values" apos) [] [] cpos) X.env) :: starEach [] X.env := rfl
  refine wpAny_Call_Name_kw (ld_blt I hg hm hv ?_)
  refine PyProof.Rows.callWith_type1 ?_ hs rfl
  rw [hs]
  show wpAny _ _ (spliced ((false, PySem.eval (.Call (.Attribute e "values" apos) [] [] cpos) X.env) :: backTo pos (starEach [] X.env))) _ _ s
  refine Calls.spliced_cons ?_
  refine wpAny_Call_method (T := "dict") (id := "dict.values") hbase rfl hline F.plainAttrs_dict F.slot_dict_values F.type_dict_values (thn (he.run pins s σ H _ I hq) fun u s1 ⟨x, H1, I1, rx, d, kvs, ex, hd, q⟩ => ?_)
  subst ex
  obtain rfl : u = Value.ref d := rx
  obtain ⟨hz, hs0, vs, kv, hdo⟩ := dk_rd I1.hok hd
  obtain ⟨ep, hat⟩ := hdo.dictAt
  have lk : kvs.length = vs.length := Paired.length kv
  have I2 : Inv X pins σ H1 { s1 with heap := s1.heap.push { cls := .type "dict_values", data := .fields #[.ref d] } } := I1.kept (t' := s1.toks) fun b ob q => Heap.get?_push_of_some _ q
  refine ⟨hdo.typeIs, hdo.mapOf.noDict, ?_⟩
  show wpAny _ _ (callWith cpos (.builtin "dict.values") [.ref d] [] []) _ X.xe s1
  refine method_meetsIn F.slot_dict_values F.entry_dict_values rfl (PySem.evalArgs_none ⟨rfl, hdo.typeIs, F.args_dict_values_1 _, _, meets_dict_values (mixKind X.prog X.w) d hs0, ⟨vs, hdo⟩, ?_⟩)
  refine Calls.spliced_nil ?_
  refine PySem.W.kdl_call (PySem.W.kdl_values (knd := mixKind X.prog X.w) (kvs := vs) (ep := ep)) (I1.ok.hd hc) ⟨⟨_, Heap.get?_push_size _ rfl, rfl, rfl⟩, hat.push _⟩ (by omega) fun h' tk acc c hk hS hacc => ?_
  have hl : acc.toList = vs.map (·.2) := by
    apply List.ext_getElem?
    intro i
    rw [List.getElem?_map, Array.getElem?_toList]
    cases z : acc[i]? with
    | some v =>
      obtain ⟨k, hk'⟩ := hacc.2 i v z
      rw [hk']; rfl
    | none =>
      have : acc.size ≤ i := by simpa using z
      rw [hacc.1] at this
      rw [List.getElem?_eq_none this]; rfl
  have hz' : (kvs.map (·.2)).length ≤ sizeLine := by rw [List.length_map]; exact hz
  refine ⟨.ref _, upd H1 _ (.lst (kvs.map (·.2))), I2.laid (t' := tk) hk (Nat.le_refl _) ⟨hz', vs.map (·.2), c, vals_of_items kv, ?_⟩, rfl, q _ (I2.hok.fresh (Nat.le_refl _))⟩
  rw [← hl, Array.toArray_toList]
  exact hS
theorem KR.vals {ρ : Nat → Addr} {n : Nat} {H : Hp} {κ : Type} : ∀ {vs : List (κ × Val)} {xs : List (κ × L2.V)}, KR g ρ n H vs xs → VRs g ρ n H (vs.map (·.2)) (xs.map (·.2))
  | [], xs, t => by rw [KR] at t; subst t; show VRs g ρ n H [] []; rw [VRs]
  | (k, v) :: vs, xs, t => by
    rw [KR] at t
    obtain ⟨x, r, rfl, t1, t2⟩ := t
    rw [List.map_cons, List.map_cons, VRs]
    exact ⟨_, _, rfl, t1, KR.vals t2⟩
def listValsV (v : Val) (h : Heap) : Rs Val := match dctOf v h with
  | some kvs => al h (.lst (kvs.map (·.2)))
  | none => .bad
theorem so_listVals {f : Fe} {e : Expr} {p apos cpos pos : Pos} (hx : sc.names.lookup ("list" : Str) = some .globalImplicit) (hm : g.mg "list" = none) (hb : noSuper e = true) (hl : (apos.endLine == cpos.line) = true) (he : SoE g lv N sc f e) :
    SoE g lv N sc (fun env h => (f env h).bind listValsV) (.Call (.Name "list" p) [.Call (.Attribute e "values" apos) [] [] cpos] [] pos) := by
  intro X W G ρ h H env σ Q r er q
  refine (pe_listVals G.calm (self_e X e) (G.gl hx) (by rw [G.hmg]; exact hm) rfl (base_plain hb _ X.env _) hl).se ?_
  refine he X W G ρ h H env σ _ r er (QR.imp (QR.bind q) fun x H1 ⟨ρ1, h1, v, s1, r1, t1, _, q1⟩ => ?_)
  unfold listValsV at q1
  split at q1
  · rename_i kvs z
    obtain ⟨a, rfl, za⟩ := dctOf_ok z
    obtain ⟨_, rfl⟩ := t1.of_ref
    obtain ⟨xs, e1, e2, hz⟩ := r1.dct za
    exact ⟨_, xs, rfl, e1, fun p hp => new_lst r1 (by rw [List.length_map]; exact hz.1) e2.vals q1 p hp⟩
  · exact q1.elim
theorem so_dnew {pos : Pos} : SoE g lv N sc (fun _ h => al h (.dct [])) (.Dict [] [] pos) := by
  intro X W G ρ h H env σ Q r er q
  exact pe_dnewK.se fun p hp => new_dct r ⟨Nat.zero_le _, fun p hp => absurd hp List.not_mem_nil⟩ (by rw [KR]) q p hp
theorem so_cls {c : Nat} {x : Str} {pos : Pos} (hx : sc.names.lookup x = some .globalImplicit) (hm : g.mg x = some (.ref (g.C c))) (hdb : (x == ("__debug__" : Str)) = false) : SoE g lv N sc (fun _ h => .ok (.cls c) h) (.Name x pos) := by
  intro X W G ρ h H env σ Q r er q
  exact (pe_glob (v := .ref (g.C c)) (G.gl hx) (by rw [G.hmg]; exact hm) rfl hdb).se (QR.ok (T := VR g) r (by rw [VR]) q)
theorem so_ty {t : String} {x : Str} {pos : Pos} (hx : sc.names.lookup x = some .globalImplicit) (hm : g.mg x = none) (hv : bootBuiltins x = some (.type t)) (hn : x ≠ "__name__") (hdb : (x == ("__debug__" : Str)) = false) : SoE g lv N sc (fun _ h => .ok (.ty t) h) (.Name x pos) := by
  intro X W G ρ h H env σ Q r er q
  exact (pe_bltn (v := .ty t) (G.gl hx) (by rw [G.hmg]; exact hm) hv rfl hn hdb).se (QR.ok (T := VR g) r (by rw [VR]) q)
/-- a constant of the module -/
structure GCon (g : G) (x : Str) (v : Val) : Prop where
  ex : ∃ (u : Value) (y : L2.V), g.mg x = some u ∧ RelV y u ∧ ∀ (ρ : Nat → Addr) (n : Nat) (H : Hp), VR g ρ n H v y
theorem so_gcon {x : Str} {v : Val} {pos : Pos} (hx : sc.names.lookup x = some .globalImplicit) (C : GCon g x v) (hdb : (x == ("__debug__" : Str)) = false) : SoE g lv N sc (fun _ h => .ok v h) (.Name x pos) := by
  intro X W G ρ h H env σ Q r er q
  obtain ⟨u, y, hm, ry, tv⟩ := C.ex
  exact (pe_glob (v := y) (G.gl hx) (by rw [G.hmg]; exact hm) ry hdb).se (QR.ok (T := VR g) r (tv _ _ _) q)
theorem so_bad {e : Expr} : SoE g lv N sc (fun _ _ => .bad) e := fun X W G ρ h H env σ Q r er q => q.elim
theorem s_bad {e : Stmt} : SoS g lv N sc (fun _ _ => .bad) e := fun X W G ρ h H env σ Q r er q => q.elim
end
end MP
end
section
set_option autoImplicit false
set_option linter.all false
set_option maxRecDepth 100000
namespace MP
open PySem L2 PySem.Spec PyProof.Rows
/-- its promise, with a field -/
def spX1 (C : Addr) (fld : Str) : Sp := fun vs H Q _ => ∃ (a : Addr) (v : L2.V), vs = [.ref a, v] ∧ H a = some (exo a C none) ∧ ∀ dx, H dx = none → dx ≠ a → Q .non (upd (upd H dx (exd dx [(fld, v)])) a (exo a C (some dx)))
/-- what the written part says of it -/
structure XI (P : Program) (K : PySem.W.Frag) (mg : Str → Option Value) (C f : Addr) (fd : FuncData) (sf : Str) (body : List Stmt) : Prop where
  T : OexC K C
  cd : ∃ c, PySem.W.clsIn K C = some c ∧ PySem.W.alongIn K "__init__" ((c.mro.dropWhile (· != .ref C)).drop 1) = some (some (.builtin "ValueError.__init__"))
  sub : PySem.W.mroIn K C (.ref C) = some true
  sve : PySem.W.subIn K (.ref C) (.type "ValueError") = some true
  opq : PySem.W.nsIn K cStatics "thirdparty.any" = some none
  fn : ∃ oc od osl, K.lookup f = some ⟨oc, od, .func fd, osl⟩
  cod : ∃ cda ccl cdd vs ccs file tf, fd.code = .ref cda ∧ PySem.W.codeIn K (.ref cda) fd.qualname = true ∧ K.lookup cda = some ⟨ccl, cdd, .fields vs, ccs⟩ ∧ vs[2]? = some (.str file tf) ∧ ((P.main.file : Str) == file) = true
  clo : ∃ cc cl cld csl, fd.closure = [(("__class__" : Str), cc)] ∧ K.lookup cc = some ⟨cl, cld, .cell (some (.ref C)), csl⟩
  glo : fd.globals = mainGlobals
  blt : fd.builtins = builtinsNs
  bod : fd.body = .stmts body
  par : ∃ ar : Arg, (fd.params.posonlyargs ++ fd.params.args).head? = some ar ∧ ar.arg = sf
  sup : mg "super" = none
  top : (P.main.scope.names.lookup ("super" : Str)).isSome = false
  ks : fd.scope.names.lookup ("super" : Str) = some .globalImplicit
  kc : fd.scope.names.lookup ("__class__" : Str) = some .free
  ka : fd.scope.names.lookup sf = some .local
  kd : fd.scope.kind = .function
  co : fd.scope.isCoroutine = false
  ge : fd.scope.isGenerator = false
  nc : ∀ x ∈ fd.scope.names, x.2 ≠ .cell
theorem sup_eval {o : Expr} {m : Str} {apos pos : Pos} {args : List Expr} {env : PySem.Env} (hs : args.all (fun e => !isSt e) = true) (hn : args.length < 29) (hl : (apos.endLine == pos.line) = true) :
    PySem.eval (.Call (.Attribute o m apos) args [] pos) env = (do
      let ov ← attributeBase o m env (PySem.eval o env)
      standAt apos.atName
      let (f, first) ← holding [ov] (getMethod ov m (do return (← importBound o env).getD true))
      callWith pos f first (backTo pos (starEach args env)) []) := by
  rw [arm_eval_Call]
  unfold methodCall
  rw [meth_form hs hn]
  unfold calleeOf methodCallPos
  simp only [if_true, hl, Bool.or_true]
  rfl
/-- up to the statement behind super().__init__(..) -/
theorem sup_run {P : Program} {w : World} {K : PySem.W.Frag} {mg : Str → Option Value} {base : PySem.Heap} {C f a : Addr} {fd : FuncData} {self : Str} {z : Str} {rest : List Stmt} {p0 p1 p2 p3 p4 p5 : Pos} {k3 : Nat} {A : Around} {outer : List PySem.Env} {s : Shared} {H : Hp} {R : Result → Shared → Prop} {args : Args} {binds : List (Str × Value)} {k : Nat}
    (X : XI P K mg C f fd self (.Expr (.Call (.Attribute (.Call (.Name "super" p0) [] [] p1) "__init__" p2) [.Constant (.str z) k3 p3] [] p4) p5 :: rest)) (hr : Room k A) (e0 : Env0 P w K mg base A outer s H) (hb : BindsTo s fd args binds) (hloc : ∀ y ∈ binds, fd.scope.names.lookup y.1 = some .local)
    (hl4 : (p2.endLine == p4.line) = true) (hs : binds.reverse.lookup self = some (.ref a)) (ea : H a = some (exo a C none)) (hz : z.length ≤ sizeLine)
    (h : ∀ (h1 : PySem.Heap) (tk : Nat) (t1 : Addr) (L : Addr), (∀ b o, b ≠ a → s.heap.get? b = some o → h1.get? b = some o) → h1.get? a = some (PySem.HandSPX.excO C t1) → L = s.heap.objs.size → h1.Ns L (fun x => binds.reverse.lookup x) → s.heap.objs.size ≤ h1.objs.size →
      PySem.wpAt (model P w) (A.deeper (callEnv fd L f)) (.func (.Expr (.Call (.Attribute (.Call (.Name "super" p0) [] [] p1) "__init__" p2) [.Constant (.str z) k3 p3] [] p4) p5 :: rest) (callEnv fd L f)) (execs rest (callEnv fd L f)) (fun fl s' => R (.ok (.ret (match fl with | .ret v => v | _ => .none))) s')
        (fun e s' => wpAny (model P w) (A.deeper (callEnv fd L f)) (leaving (callEnv fd L f) e) (fun _ s'' => R (.error e) s'') (fun e' s'' => R (.error e') s'') s') ⟨h1, s.gens, s.drawn, tk, s.os⟩) :
    codeAny (model P w) A (.call (.ref f) args) R s := by
  have KX : K.In s.heap := e0.mod.kin.keeps fun b o e => (e0.bs b o e).1
  have lim : s.heap.NoLimit := e0.mod.nolimit.keeps fun b o e => (e0.bs b o e).1
  obtain ⟨t0, ho⟩ := exo_at e0.hok ea
  obtain ⟨oc, od, osl, lk⟩ := X.fn
  obtain ⟨cda, ccl, cdd, vs, ccs, file, tf, ecd, hcd, lkc, hvs, hfile⟩ := X.cod
  obtain ⟨cc, cl, cld, csl, eclo, lcell⟩ := X.clo
  obtain ⟨ar, hpar, rfl⟩ := X.par
  obtain ⟨cd, hcl, halong⟩ := X.cd
  obtain ⟨hp, g, d, t, os⟩ := s
  refine PySem.ks_codeAny_call_defAt (binds := binds) hr.depth (KX _ _ lk) rfl lim (by rw [ecd]; exact PySem.W.codeRec_of KX hcd) X.bod hb X.nc hloc (fun h0 hns hk => ?_) X.co X.ge X.kd
  have KX0 : K.In h0 := KX.keeps hk
  have ho0 := hk _ _ ho
  have hne : a ≠ C := fun e => by
    obtain ⟨nm, q, N, bs, bm, sn, sub, ab, col, dd, k0, k1, k2, k3, k5, hC, hbm⟩ := X.T.cls
    have := KX _ _ hC
    rw [← e, ho] at this
    cases this
  obtain ⟨oD, hD1, hD2⟩ : ∃ oD, h0.get? C = some oD ∧ oD.data = .cls cd := by
    have hD := hcl
    unfold PySem.W.clsIn at hD
    split at hD
    · rename_i c d cd' sl ho
      cases hD
      exact ⟨_, KX0 _ _ ho, rfl⟩
    · cases hD
  obtain ⟨mb, hmb1, hmb2⟩ := e0.mod.blt
  have bs0 : ∀ b o, base.get? b = some o → h0.get? b = some o := fun b o e => hk _ _ (e0.bs b o e).1
  refine PySem.ks_wpAt_execs_cons (PySem.ks_wpAt_Expr_any (PySem.ks_wpAt_MethodCall (PySem.ks_wpAt_super_base (f := f) (cc := cda) X.ks X.kc rfl rfl (hk _ _ (KX _ _ lk)) rfl hpar ecd (hk _ _ (KX _ _ lkc)) rfl hvs hfile X.top ?_) (sup_eval rfl (by show 1 < 29; decide) hl4)) (by show (fd.scope.kind == .module && _) = false; rw [X.kd]; rfl) (swaps_no rfl none _ _))
  refine PySem.W.ks_loadName_global X.kd X.ks (Calls.loadGlobal_builtin (by show Heap.Ns h0 fd.globals mg; rw [X.glo]; exact e0.mod.glob.keeps bs0) X.sup (by show Heap.Ns h0 fd.builtins mb; rw [X.blt]; exact hmb1.keeps bs0) ((hmb2 "super" (by decide)).trans (by kernel_rfl)) ⟨rfl, ?_⟩)
  refine wpAny_loadName_free X.kd X.kc (by show fd.closure.lookup _ = some cc; rw [eclo]; rfl) ⟨_, KX0 _ _ lcell, rfl⟩ ?_
  refine wpAny_loadName_local X.kd X.ka hns hs ?_
  refine PySem.ks_wpAny_isType_cls hD1 hD2 ⟨rfl, ?_⟩
  refine PySem.ks_wpAny_call_super hD1 hD2 ho0 rfl (fun c e => by cases e) (PySem.W.looks_mroIn KX0 X.sub) (fun h' hso k' => ?_)
  have KX' : K.In h' := KX0.keeps k'
  have ho' := k' _ _ ho0
  have hI : PySem.W.Looks (model P w) h' (isInstance (.ref a) (.type "ValueError")) true := (PySem.W.InstAt.type (od := none) ⟨ho', rfl, rfl, trivial⟩).andThen (PySem.W.looks_subIn KX' X.sve)
  refine PySem.W.kxs_getMethod PySem.W.kxs_ValueError hso (PySem.W.looks_opaque KX' X.opq) (l₀ := cd.mro) ?_ rfl KX' halong hI hne rfl ?_
  · exact fun A Q E s k q => wpAny_bind ((PySem.W.looks_clsIn KX' hcl) A _ E s k (wpAny_pure q))
  show wpAny (model P w) _ (callWith p4 (.ref h'.objs.size) [] (backTo p4 (starEach [.Constant (.str z) k3 p3] (callEnv fd hp.objs.size f))) []) _ _ _
  have ham : (h'.push (PySem.W.kxs_mw "ValueError.__init__" a)).get? h'.objs.size = some (PySem.W.kxs_mw "ValueError.__init__" a) := Heap.get?_push_at rfl rfl
  have hoa : (h'.push (PySem.W.kxs_mw "ValueError.__init__" a)).get? a = some (PySem.HandSPX.excO C t0) := Heap.get?_push_of_some _ ho'
  obtain ⟨nm, q, N, bs, bm, sn, sub, ab, col, dd, k0, k1, k2, k5, k6, hC, hbm⟩ := X.T.cls
  have hCm : (h'.push (PySem.W.kxs_mw "ValueError.__init__" a)).get? C = some _ := Heap.get?_push_of_some _ (KX' _ _ hC)
  refine PySem.W.kxs_callWith (i := "ValueError.__init__") (x := a) rfl (Calls.evalArgs_plain (PyProof.Rows.spliced_more (wpAny_Constant_str (PyProof.Rows.spliced_none ⟨ham, ?_⟩))))
  refine wpAny_call (codeAny_of_tree ?_)
  show wpAny _ _ (callAny (.ref h'.objs.size) ⟨[.str z (t + binds.length + 1)], []⟩) _ _ _
  simp only [callAny]
  refine wpAny_bind (wpAny_load ham ?_)
  simp only [PySem.W.kxs_mw, show (Value.type "method-wrapper" == Value.type "method" || Value.type "method-wrapper" == Value.type "builtin_function_or_method" || Value.type "method-wrapper" == Value.type "method-wrapper") = true by decide, if_true]
  refine PySem.W.KFB.if_so (by decide) ?_
  refine wpAny_bind (PySem.W.check_bound_init F.excBase_ValueError.toExcCallFacts hCm hoa rfl ?_)
  refine wpAny_bind (wpAny_pure (wpAny_pure ?_))
  refine ⟨plainId_quiet F.excBase_ValueError.init.plain _, codeAny_builtin F.excBase_ValueError.initEntry ?_⟩
  refine PySem.W.exc_init_tree (cls := .ref C) (t0 := t0) (dv := none) (c2 := .none) (c3 := .none) (b4 := .bool false) hoa (by rw [List.length_singleton, sizeLine_eq]; omega) (fun h1 k1 e1 _ => ?_)
  obtain ⟨oL, es, ep, hL, rL⟩ := hns
  have haL : hp.objs.size ≠ a := Nat.ne_of_gt (Heap.lt_size ho)
  have hL1 : h1.get? hp.objs.size = some oL := k1 _ _ haL (Heap.get?_push_of_some _ (k' _ _ hL))
  exact h h1 _ _ _ (fun b o hb e => k1 b o hb (Heap.get?_push_of_some _ (k' _ _ (hk _ _ e)))) e1 rfl ⟨oL, es, ep, hL1, rL⟩ (Nat.le_of_lt (Heap.lt_size hL1))
/-- an __init__ with one field -/
theorem fn_sup1 {CX : CXT} {P : Program} {w : World} {K : PySem.W.Frag} {mg : Str → Option Value} {base : PySem.Heap} {C f : Addr} {fd : FuncData} {sf x fld z : Str} {p0 p1 p2 p3 p4 p5 q0 q1 q2 q3 : Pos} {k3 : Nat}
    (X : XI P K mg C f fd sf [.Expr (.Call (.Attribute (.Call (.Name "super" p0) [] [] p1) "__init__" p2) [.Constant (.str z) k3 p3] [] p4) p5, .Assign [.Attribute (.Name sf q0) fld q1] (.Name x q2) q3])
    (hl4 : (p2.endLine == p4.line) = true) (hz : z.length ≤ sizeLine) (kx : fd.scope.names.lookup x = some .local) (hne : x ≠ sf) (hd1 : (x == ("__debug__" : Str)) = false) (hd2 : (sf == ("__debug__" : Str)) = false) (hfl : PySem.W.findIn K (.ref C) fld = some none) :
    FnOk P w K mg base CX 1 f fd [sf, x] (spX1 C fld) := by
  refine ⟨fun vs H Q E ⟨a, v, e, _⟩ => by rw [e]; rfl, fun A outer s H args us vs Q E hr e0 hb r hsp => ?_⟩
  obtain ⟨a, v, rfl, ea, q⟩ := hsp
  cases r with
  | @cons _ u1 _ ur r1 r2 =>
  cases r2 with
  | @cons _ u _ ur r3 r4 =>
  cases r4
  obtain rfl : u1 = Value.ref a := r1
  have hx1 : ([(sf, Value.ref a), (x, u)].reverse).lookup sf = some (.ref a) := by
    show List.lookup sf [(x, u), (sf, Value.ref a)] = _
    rw [List.lookup_cons, show (sf == x) = false by simpa using fun e => hne e.symm, List.lookup_cons, beq_self_eq_true]
  have hx2 : ([(sf, Value.ref a), (x, u)].reverse).lookup x = some u := by
    show List.lookup x [(x, u), (sf, Value.ref a)] = _
    rw [List.lookup_cons, beq_self_eq_true]
  refine sup_run (binds := [(sf, Value.ref a), (x, u)]) X hr e0 hb (fun y hy => ?_) hl4 hx1 ea hz (fun h1 tk t1 L k1 e1 eL hns hsz => ?_)
  · rcases List.mem_cons.mp hy with rfl | hy
    · exact X.ka
    · rw [List.mem_singleton.mp hy]; exact kx
  obtain ⟨nm, qq, N, bs, bm, sn, sub, ab, col, dd, c0, c1, c2, c5, c6, hC, hbm⟩ := X.T.cls
  obtain ⟨t0, ho⟩ := exo_at e0.hok ea
  have KX : K.In s.heap := e0.mod.kin.keeps fun b o e => (e0.bs b o e).1
  have haC : a ≠ C := fun e => by
    have := KX _ _ hC
    rw [← e, ho] at this
    cases this
  obtain ⟨hp, g, d, t, os⟩ := s
  have KX1 : K.In h1 := fun b o e => k1 b o (fun z => by
    have := KX b o e
    have hn := (e0.bs b o)
    rw [z] at e
    have e2 := e0.mod.kin a o e
    have := (e0.bs a o e2).2
    rw [ea] at this
    cases this) (KX b o e)
  have hcl : PySem.W.clsIn K C = some { name := nm, bases := bs, mro := .ref C :: bm, ns := N, qualname := qq, hasDict := true, slotNames := sn, subclasses := sub, abstract := ab, collection := col, hasDel := false } := by unfold PySem.W.clsIn; rw [hC] <;> rfl
  refine PySem.ks_wpAt_execs_cons (PySem.ks_wpAt_Assign_Attr (PySem.wpAt_of_wpAny (wpAny_Name (wpAny_loadName_local X.kd kx hns hx2 (wpAny_Name (wpAny_loadName_local X.kd X.ka hns hx1 ?_) hd2)) hd1)) (swaps_no rfl _ _ _))
  refine PySem.W.set_plain KX1 (ox := PySem.HandSPX.excO C t1) (od := none) ⟨e1, rfl, rfl, trivial⟩ X.T.sa ?_
  refine PySem.HandSPX.exc_osa KX1 e1 hcl (show PySem.HandSPX.refsVE (.ref C :: bm) = true from hbm) rfl hfl (fun h2 tk2 dx k2 dn dne hx hn => ?_)
  show PySem.wpAt _ _ _ (execs [] _) _ _ _
  refine PySem.wpAt_of_wpAny (wpAny_pure ?_)
  have hdn : hp.objs.size ≤ dx := Nat.le_trans hsz dn
  have hnd : H dx = none := e0.hok.fresh hdn
  have nd : ∀ {b : Addr} {o : Obj}, hp.get? b = some o → b ≠ dx := fun {b o} q => Nat.ne_of_lt (Nat.lt_of_lt_of_le (Heap.lt_size q) hdn)
  have na : ∀ {b : Addr}, H b = none → b ≠ a := fun {b} n z => by
    rw [z, ea] at n
    cases n
  have k : ∀ b o, b ≠ a → hp.get? b = some o → h2.get? b = some o := fun b o hb e => k2 b o hb (k1 b o hb e)
  show CE outer P w H ⟨hp, g, d, t, os⟩ Q .none _
  refine ⟨.non, upd (upd H dx (exd dx [(fld, v)])) a (exo a C (some dx)), rfl, e0.bare, {
    keep := fun b o q n _ _ => k b o (na n) q
    slot := fun b o q n _ _ => ⟨o.slots, k b o (na n) q⟩
    free := fun b o q n _ => by rw [upd_ne (na n), upd_ne (nd q)]; exact n
    there := fun b o q _ => by
      by_cases hb : b = a
      · exact ⟨_, by rw [hb]; exact hx⟩
      · exact ⟨o, k b o hb q⟩
    tups := fun b xs q => by rw [upd_ne (at_ne ea q exo_tup), upd_ne (ne_of_none q hnd)]; exact q
    frzs := fun b o v q => by rw [upd_ne (at_ne ea q exo_frz), upd_ne (ne_of_none q hnd)]; exact q
    tbls := fun b ps q => ⟨#[], by rw [upd_ne (at_ne ea q exo_tbl), upd_ne (ne_of_none q hnd), q]; simp⟩ }, fun b o q => ?_, rfl, q dx hnd dne⟩
  by_cases hb : b = a
  · subst hb
    rw [upd_same] at q
    cases q
    exact exo_ok hx
  · rw [upd_ne hb] at q
    by_cases hd : b = dx
    · subst hd
      rw [upd_same] at q
      cases q
      exact exd_ok hn (relO_put (fs := []) r3 fun g => True.intro)
    · rw [upd_ne hd] at q
      exact (e0.hok b o q).stay (fun c v hc z => k c v (by
          rcases hc with hc | hc
          · rw [hc]
            exact hb
          · exact at_ne ea hc exo_own) z)
        (fun c hc => by rw [upd_ne (at_ne ea hc exo_own), upd_ne (ne_of_none hc hnd)]; exact hc) (fun c xs hc => by rw [upd_ne (at_ne ea hc exo_tup), upd_ne (ne_of_none hc hnd)]; exact hc)
end MP
end
section
set_option autoImplicit false
set_option linter.all false
namespace MP
open PySem L2 PySem.Spec PyProof.Rows
section
variable {g : G} {lv : Nat} {N : List Str} {sc : Scope}
/-- an exception class with one field -/
structure XOk (g : G) (c : Nat) (fld : Str) : Prop where
  T : OexC g.K (g.C c)
  ini : ∃ (fI : Addr) (fd : FuncData) (sf x : Str), PySem.W.findIn g.K (.ref (g.C c)) "__init__" = some (some (.ref fI)) ∧ PySem.W.typeIn g.K (.ref fI) = some (.type "function") ∧ FnOk g.P g.w g.K g.mg g.base (CXg g) 1 fI fd [sf, x] (spX1 (g.C c) fld) ∧ Binds g.K fd [sf, x] []
theorem passN {X : Cx} : Passes (L2.CX X.prog X.w) X (fun _ _ _ => False) := by
  intro pins σ s H er s' I h
  obtain ⟨a, B, H', cls, d, _, _, _, _, _, _, _, hE⟩ := h
  exact hE.elim
def sRaise (c : Nat) (fld : Str) (fs : Env → Heap → Rs (List Val)) : Fs := fun env h => liftS (fs env h) env fun vs h1 => match vs with
  | [v] => .ex env c [(fld, v)] h1
  | _ => .bad
theorem s_raise {c : Nat} {fld : Str} (K : XOk g c fld) (hlv : 2 ≤ lv) {x : Str} {p pos pos2 : Pos} {e : Expr} {fs : Env → Heap → Rs (List Val)} (hx : sc.names.lookup x = some .globalImplicit) (hm : g.mg x = some (.ref (g.C c))) (hdb : (x == ("__debug__" : Str)) = false) (hs : isSt e = false) (ha : SoA g lv N sc fs [e]) :
    SoS g lv N sc (sRaise c fld fs) (.Raise (some (.Call (.Name x p) [e] [] pos)) none pos2) := by
  intro X W G ρ h H env σ D r er q
  obtain ⟨fI, fd, sf, y, iC, tI, F1, bI⟩ := K.ini
  have T' : OexC X.K (g.C c) := by rw [G.hK]; exact K.T
  refine (ps_raise G.calm G.tk (pmk_oex (CX := L2.CX X.prog X.w) (k := 1) T' (by rw [G.hK]; exact iC) (by rw [G.hK]; exact tI) (G.fn F1) (G.room.mono hlv) (by rw [G.hK]; exact bI) .nil passN (G.gl hx) (by rw [G.hmg]; exact hm) (self_a X [e]) hdb (starEach_plain hs [] X.env) (noStar rfl pos X.env))).se ?_
  refine ha X W G ρ h H env σ _ r er (QR.imp (QS.lift (T := VRs g) r er q) fun xs H1 ⟨ρ1, h1, vs, s1, r1, t1, _, q1⟩ => ?_)
  match vs, t1, q1 with
  | [v], t1, q1 =>
    rw [VRs] at t1
    obtain ⟨x1, xr, rfl, tv, t2⟩ := t1
    rw [VRs] at t2
    subst t2
    refine ⟨by show 1 ≤ 1000; decide, fun a na => ⟨a, x1, rfl, upd_same, fun dx hdx hne => ⟨rfl, dx, [(fld, x1)], upd_same, by rw [upd_ne hne, upd_same], ?_, ?_⟩⟩⟩
    · rw [upd_ne hne] at hdx; exact hdx
    · have hd1 : H1 dx = none := by rw [upd_ne hne] at hdx; exact hdx
      have e : upd (del (upd (upd (upd H1 a (exo a (g.C c) none)) dx (exd dx [(fld, x1)])) a (exo a (g.C c) (some dx))) a) dx (.xd [(fld, x1)]) = upd H1 dx (.xd [(fld, x1)]) := by
        funext b
        by_cases hb : b = dx
        · rw [hb, upd_same, upd_same]
        · rw [upd_ne hb, upd_ne hb]
          by_cases ha : b = a
          · rw [ha, del_same, na]
          · rw [del_ne ha, upd_ne ha, upd_ne hb, upd_ne ha]
      rw [e]
      have st : Stp ρ1 ρ1 h1 h1 H1 (upd H1 dx (.xd [(fld, x1)])) := Stp.fresh r1 hd1
      refine q1 ρ1 _ σ dx [(fld, x1)] st (r1.fresh hd1) ((er.step r s1).step r1 st) upd_same ?_
      rw [KR]
      exact ⟨x1, [], rfl, tv.step r1 st, by rw [KR]⟩
  | [], _, q1 => exact q1.elim
  | _ :: _ :: _, _, q1 => exact q1.elim
end
end MP
end
section
set_option autoImplicit false
set_option linter.all false
namespace MP
open PySem L2 PySem.Spec PyProof.Rows
section
variable {g : G} {lv : Nat} {N : List Str} {sc : Scope}
/-- what is known of a property -/
structure POk (g : G) (lv : Nat) (c : Nat) (m : Str) (i : MI) : Prop where
  ex : ∃ (k : Nat) (f p : Addr) (fd : FuncData) (ps : List Str), k + 1 ≤ lv ∧ L2.Cls g.K (g.C c) ∧ PropOf g.K (g.C c) m p f ∧ DOk g k i.np i.cf f fd ps ∧ DV g fd ps i.dv
def noEx {α : Type} (r : Rs α) : Rs α := match r with
  | .ok a h => .ok a h
  | _ => .bad
/-- what is read of a value -/
def attrV (tab : Nat → Option MI) (okc : Nat → Bool) (f : Str) (v : Val) (h1 : Heap) : Rs Val := match insOf v h1 with
  | some (c, fl) => (match tab c with
    | some i => if ([v] ++ i.dv).length = i.np then noEx (i.cf ([v] ++ i.dv) h1) else .bad
    | none => if okc c then opt (fl.lookup f) h1 else .bad)
  | none => .bad
def eAttr (tab : Nat → Option MI) (okc : Nat → Bool) (f : Str) (fo : Fe) : Fe := fun env h => (fo env h).bind (attrV tab okc f)
theorem attr_run {tab : Nat → Option MI} {okc : Nat → Bool} {f : Str} (P : ∀ c i, tab c = some i → POk g lv c f i) (T : ∀ c, okc c = true → L2.Cls g.K (g.C c) ∧ NoAttr g.K (g.C c) f) {X : Cx} {W : WX} (G : Good g X N sc W lv) {ρ1 : Nat → Addr} {h1 : Heap} {H1 : Hp} {σ σ0 : L2.St} {v : Val} {x : L2.V} {Q : VK} {pins : List (Addr × Obj)} {s : Shared} {u : Value}
    (r1 : Rel g ρ1 h1 H1) (t1 : VR g ρ1 h1.length H1 v x) (q1 : QR g (VR g) W ρ1 h1 H1 σ0 (attrV tab okc f v h1) Q) (I : Inv X pins σ H1 s) (rx : RelV x u) : wpAny (model X.prog X.w) X.A (getAttr u f true) (EP X pins σ Q) X.xe s := by
  unfold attrV at q1
  cases z : insOf v h1 with
  | none => rw [z] at q1; exact q1.elim
  | some cf =>
    obtain ⟨c, fl⟩ := cf
    rw [z] at q1
    dsimp only at q1
    obtain ⟨a, rfl, za⟩ := insOf_ok z
    obtain ⟨ha1, rfl⟩ := t1.of_ref
    obtain ⟨dx, xs, e1, e2⟩ := r1.ins za
    cases (show u = Value.ref (ρ1 a) from rx)
    cases zt : tab c with
    | some i =>
      rw [zt] at q1
      dsimp only at q1
      obtain ⟨k, f', p, fd, ps, hk, cl, pr, D, V⟩ := (P c i zt).ex
      by_cases hn : ([Val.ref a] ++ i.dv).length = i.np
      · rw [if_pos hn] at q1
        obtain ⟨ds, dvs, b, hd, hv⟩ := V.ex
        have hsp : spF g i.np i.cf (.ref (ρ1 a) :: dvs) H1 Q (fun _ _ _ => False) := by
          refine ⟨ρ1, h1, [Val.ref a] ++ i.dv, r1, ?_, hn, ?_⟩
          · show VRs g ρ1 h1.length H1 (Val.ref a :: i.dv) (.ref (ρ1 a) :: dvs)
            rw [VRs]
            exact ⟨_, _, rfl, t1, hv _ _ _⟩
          · cases zz : i.cf ([Val.ref a] ++ i.dv) h1 with
            | ok v' h' => rw [zz] at q1; exact q1
            | ex c' fs' h' => rw [zz] at q1; exact q1.elim
            | bad => rw [zz] at q1; exact q1.elim
        refine getprop_ok (CX := L2.CX X.prog X.w) (E := fun _ _ _ => False) I e1 (by rw [G.hK]; exact cl) (by rw [G.hK]; exact pr) (G.fn D.fn) (G.room.mono hk) (by rw [G.hK]; exact b) hd ?_ hsp
        intro pins' σ' H' s' er s'' I' h'
        obtain ⟨_, _, _, _, _, _, _, _, _, _, _, _, hE⟩ := h'
        exact hE.elim
      · rw [if_neg hn] at q1; exact q1.elim
    | none =>
      rw [zt] at q1
      dsimp only at q1
      cases zk : okc c with
      | false => rw [zk] at q1; exact q1.elim
      | true =>
        rw [zk, if_pos rfl] at q1
        cases zl : fl.lookup f with
        | none => rw [zl] at q1; exact q1.elim
        | some v' =>
          rw [zl] at q1
          obtain ⟨y, l1, l2⟩ := e2.lookup_some zl
          have tC := T c zk
          rw [← G.hK] at tC
          exact getattr_ok I e1 tC.1 tC.2 l1 fun u' s2 I2 ru => ⟨y, H1, I2, ru, QR.ok (T := VR g) r1 l2 q1⟩
theorem so_attr {tab : Nat → Option MI} {okc : Nat → Bool} {f : Str} (P : ∀ c i, tab c = some i → POk g lv c f i) (T : ∀ c, okc c = true → L2.Cls g.K (g.C c) ∧ NoAttr g.K (g.C c) f) {fo : Fe} {o : Expr} {pos : Pos} (hb : noSuper o = true) (ho : SoE g lv N sc fo o) : SoE g lv N sc (eAttr tab okc f fo) (.Attribute o f pos) := by
  intro X W G ρ h H env σ Q r er q pins s I
  refine attr_of (base_plain hb f X.env _) (thn (ho X W G ρ h H env σ (fun x H1 => ∀ (s : Shared) (u : Value), Inv X pins σ H1 s → RelV x u → wpAny (model X.prog X.w) X.A (getAttr u f true) (EP X pins σ Q) X.xe s) r er (QR.imp (QR.bind q) fun x H1 ⟨ρ1, h1, v, s1, r1, t1, _, q1⟩ => ?_) pins s I) fun u s1 ⟨x, H1, I1, rx, k⟩ => k s1 u I1 rx)
  exact fun s u I rx => attr_run P T G r1 t1 q1 I rx
def ownBinT (ob : Nat → Option MI) (ot : Nat → Bool) (base : Val → Val → Heap → Rs Val) (x y : Val) (h : Heap) : Rs Val := match insOf x h, y with
  | some (c, _), .int _ => (match ob c with
    | some i => if ot c = true ∧ ([x, y] ++ i.dv).length = i.np then i.cf ([x, y] ++ i.dv) h else .bad
    | none => .bad)
  | _, _ => ownBin ob base x y h
structure OBT (g : G) (op : Operator) (c : Nat) : Prop where
  hr : PySem.W.findIn g.K (.ref (g.C c)) (dunderR op.info.2) = some none
  h1 : ∃ fo, PySem.W.findIn g.K (.type "int") (PySem.dunder op.info.2) = some fo
  h2 : ∃ ro, PySem.W.findIn g.K (.type "int") (dunderR op.info.2) = some ro
  sb : PySem.W.subIn g.K (.type "int") (.ref (g.C c)) = some false
theorem bo_ownT {op : Operator} {ob : Nat → Option MI} {ot : Nat → Bool} {base : Val → Val → Heap → Rs Val} (T : ∀ c i, ob c = some i → OBin g lv op c i) (T2 : ∀ c, ot c = true → OBT g op c) (B : SoOS g lv (binaryOp op) base) : SoOS g lv (binaryOp op) (ownBinT ob ot base) := by
  intro X W N sc G ρ h H σ x y vx vy Q r tx ty q
  unfold ownBinT at q
  split at q
  · rename_i c fl j hx
    split at q
    · rename_i i zo
      split at q
      · rename_i hc
        obtain ⟨ho, hn⟩ := hc
        intro pins s v u I rx ry
        obtain ⟨k, f, fd, ps, hk, hfe, hfn, hsf, hIT, D, V⟩ := (T c i zo).ex
        obtain ⟨a, rfl, za⟩ := insOf_ok hx
        obtain ⟨_, rfl⟩ := tx.of_ref
        obtain ⟨dx, xs, e1, e2⟩ := r.ins za
        cases rx
        obtain ⟨mA, J, _⟩ := ins_get I.hok e1
        obtain ⟨od, J, _⟩ := J.look
        obtain ⟨m, hF⟩ := I.fr
        have O := T2 c ho
        obtain ⟨fo, z1⟩ := O.h1
        obtain ⟨ro, z2⟩ := O.h2
        have z3 := O.hr
        have z4 := O.sb
        rw [← G.hK] at hfe hfn hsf z1 z2 z3 z4
        have tv : VRs g ρ h.length H [Val.ref a, Val.int j] [L2.V.ref (ρ a), vy] := by
          rw [VRs]; refine ⟨_, _, rfl, tx, ?_⟩; rw [VRs]; exact ⟨_, _, rfl, ty, by rw [VRs]⟩
        have hty : typeOf u = pure (.type "int") := by
          cases ty.of_int
          obtain ⟨t, rfl⟩ := ry
          rfl
        refine PySem.W.ksp_binT hF I.ok.mod.kin J hty hsf hfe hfn z3 (.inl rfl) z1 z2 z4 ?_
        refine wpAny_mono (run_callA G (G.room.mono hk) rfl D V I r tv (.cons rfl (.cons ry .nil)) hn q) (fun v s' hv => ?_) fun _ _ e => e
        cases v <;> first
          | exact hv
          | (obtain ⟨b, H', I', rb, hq⟩ := hv
             cases b <;> first | exact nomatch rb | (obtain ⟨_, z⟩ := rb; exact nomatch z))
      · exact q.elim
    · exact q.elim
  · exact bo_own T B X W N sc G ρ h H σ _ _ vx vy Q r tx ty q
def mulW (x y : Val) (h : Heap) : Rs Val := match x, y with
  | .int i, .int j => if decide (i.natAbs.log2 + j.natAbs.log2 < 1000000) then .ok (.int (i * j)) h else .bad
  | _, _ => bop .mul x y h
theorem bo_mulW : SoO g lv (binaryOp .Mult) mulW := by
  intro X W N sc G ρ h H σ x y vx vy Q r tx ty q
  unfold mulW at q
  split at q
  · rename_i i j
    cases tx.of_int; cases ty.of_int
    split at q
    · rename_i hc
      exact op_mulW.se ⟨i, j, rfl, rfl, (show i.natAbs.log2 + j.natAbs.log2 < 1000000 from of_decide_eq_true hc), QR.ok (T := VR g) r VR.int q⟩
    · exact q.elim
  · exact bo_mul X W N sc G ρ h H σ _ _ vx vy Q r tx ty q
end
end MP
end
section
set_option autoImplicit false
set_option linter.all false
namespace MP
open PySem L2 PySem.Spec PyProof.Rows
section
variable {g : G} {lv : Nat} {N : List Str} {sc : Scope}
def listRngV (v : Val) (h : Heap) : Rs Val := match v with
  | .int j => if 0 ≤ j ∧ j ≤ lim then al h (.lst (rngV 0 j.toNat)) else .bad
  | _ => .bad
theorem rngV_rel {ρ : Nat → Addr} {n : Nat} {H : Hp} {j : Int} (h0 : 0 ≤ j) : VRs g ρ n H (rngV 0 j.toNat) (rgV 0 j) := by
  unfold rngV rgV
  rw [show (j - 0).toNat = j.toNat by omega]
  generalize List.range j.toNat = l
  induction l with
  | nil => show VRs g ρ n H [] []; rw [VRs]
  | cons a l ih => rw [List.map_cons, List.map_cons, VRs]; exact ⟨_, _, rfl, VR.int, ih⟩
theorem so_listRng {f : Fe} {e : Expr} {p p2 pos pos2 : Pos} (hx : sc.names.lookup ("list" : Str) = some .globalImplicit) (hm : g.mg "list" = none) (hx2 : sc.names.lookup ("range" : Str) = some .globalImplicit) (hm2 : g.mg "range" = none) (hs : isSt e = false) (he : SoE g lv N sc f e) :
    SoE g lv N sc (fun env h => (f env h).bind listRngV) (.Call (.Name "list" p) [.Call (.Name "range" p2) [e] [] pos2] [] pos) := by
  intro X W G ρ h H env σ Q r er q
  refine (pe_listRg G.calm (G.gl hx) (by rw [G.hmg]; exact hm) (prg_1 (G.gl hx2) (by rw [G.hmg]; exact hm2) (self_e X e) (starEach_plain hs [] X.env))).se ?_
  refine he X W G ρ h H env σ _ r er (QR.imp (QR.bind q) fun x H1 ⟨ρ1, h1, v, s1, r1, t1, _, q1⟩ => ?_)
  cases v with
  | int j =>
    cases t1.of_int
    unfold listRngV at q1
    dsimp only at q1
    by_cases hj : 0 ≤ j ∧ j ≤ lim
    · rw [if_pos hj] at q1
      have hl : (lim : Int) ≤ 16777216 := by decide
      refine ⟨j, rfl, RgOk.of_le (by decide) (by omega) (by decide) hj.1, fun p hp => ?_⟩
      refine new_lst r1 ?_ (rngV_rel hj.1) q1 p hp
      unfold rngV
      rw [List.length_map, List.length_range]
      exact lim_le (by omega)
    · rw [if_neg hj] at q1; exact q1.elim
  | _ => exact q1.elim
theorem Fx.more {H H' : Hp} (k : ∀ b o, H b = some o → H' b = some o) : Fx g.K H H' := by
  refine ⟨fun a xs ⟨q, z⟩ => ⟨?_, fun e => ?_⟩, fun a ns q => ?_, fun a φ q => k a _ q⟩
  · rcases q with (q | ⟨u, q⟩) | q
    · exact .inl (.inl (k _ _ q))
    · exact .inl (.inr ⟨u, k _ _ q⟩)
    · exact .inr q
  · obtain ⟨o, n, q, r⟩ := z e
    refine ⟨o, n, ?_, r⟩
    rcases q with q | q
    · exact .inl (k _ _ q)
    · exact .inr q
  · rcases q with ⟨o, q⟩ | q
    · exact .inl ⟨o, k _ _ q⟩
    · exact .inr q
theorem Rel.more {ρ : Nat → Addr} {h : Heap} {H H' : Hp} (r : Rel g ρ h H) (k : ∀ b o, H b = some o → H' b = some o) : Rel g ρ h H' :=
  ⟨r.inj, fun i b c ei => (r.obj i b c ei).mono (fun _ _ => rfl) (Nat.le_refl _) (Fx.more k) (by obtain ⟨o, e⟩ := r.trk ei; rw [k _ _ e, e])⟩
theorem Stp.more {ρ : Nat → Addr} {h : Heap} {H H' : Hp} (k : ∀ b o, H b = some o → H' b = some o) : Stp ρ ρ h h H H' :=
  ⟨Nat.le_refl _, fun _ _ => rfl, fun i a b => absurd b (Nat.not_lt.mpr a), fun b e => (by
    cases z : H b with
    | none => rfl
    | some o => rw [k b o z] at e; cases e), fun b o e _ => k b o e, fun _ _ e => e⟩
theorem Rel.off_none {ρ : Nat → Addr} {h : Heap} {H : Hp} {p : Addr} (r : Rel g ρ h H) (hp : H p = none) : Off ρ h p := fun i hi e => by
  cases z : h[i]? with
  | none => exact absurd (List.getElem?_eq_none_iff.mp z) (by omega)
  | some q =>
    obtain ⟨b, c⟩ := q
    obtain ⟨o, e2⟩ := r.trk z
    rw [e, hp] at e2
    cases e2
def listItmsV (v : Val) (h : Heap) : Rs Val := match v with
  | .ref a => (match h[a]? with
    | some (_, .dct kvs) => al h (.lst (kvs.map fun kv => Val.tup [vKey kv.1, kv.2]))
    | _ => .bad)
  | _ => .bad
theorem vkey_rel {ρ : Nat → Addr} {n : Nat} {H : Hp} {k : Key} (h : KOk k) : VR g ρ n H (vKey k) (kV k) := by
  cases k with
  | inl i => exact VR.int
  | inr x => show VR g ρ n H (.str x) (.str x); rw [VR]; exact ⟨rfl, h⟩
/-- list(x.items()), x any dict that may be read -/
def rItR : L2.V → Hp → VK → Prop := fun y K R => ∃ (dd : Addr) (row : List (Key × L2.V)), y = .ref dd ∧ Rd K dd (.dK row) ∧
  ∀ (K' : Hp) (l : Addr) (tt : List Addr), (∀ c u, K c = some u → K' c = some u) → K l = none → (∀ z ∈ tt, K z = none) → l ∉ tt → K' l = some (.lst (tt.map L2.V.ref)) → Paired (fun (z : Addr) (w : Key × L2.V) => K' z = some (.tup [kV w.1, w.2])) tt row → R (.ref l) K'
theorem pe_itmsR {X : Cx} {ex : Expr} {tx : TE} {pN pA pC pW : Pos} (calm : X.calm = true) (hx : PE X ex tx) (hgl : Gl X "list") (hml : X.mg "list" = none) (hb : attributeBase ex "items" X.env (PySem.eval ex X.env) = PySem.eval ex X.env) (hln : (pA.endLine == pC.line) = true) :
    PE X (.Call (.Name "list" pN) [.Call (.Attribute ex "items" pA) [] [] pC] [] pW) (fun σ K R => tx σ K fun y K1 => rItR y K1 R) := by
  refine ⟨fun pn st τ K R J hR => ?_⟩
  have hst : starEach [.Call (.Attribute ex "items" pA) [] [] pC] X.env = (false, PySem.eval (.Call (.Attribute ex "items" pA) [] [] pC) X.env) :: starEach [] X.env := rfl
  refine wpAny_Call_Name_kw (ld_blt J hgl hml (by rfl : bootBuiltins "list" = some (.type "list")) (PyProof.Rows.callWith_type1 ?_ hst rfl))
  rw [hst]
  show wpAny _ _ (spliced ((false, PySem.eval (.Call (.Attribute ex "items" pA) [] [] pC) X.env) :: backTo pW (starEach [] X.env))) _ _ st
  refine Calls.spliced_cons (wpAny_Call_method (T := "dict") (id := "dict.items") hb rfl hln F.plainAttrs_dict F.slot_dict_items F.type_dict_items (thn (hx.run pn st τ K _ J hR) fun w st1 ⟨y, K1, J1, ry, dd, row, ey, rdd, fin⟩ => ?_))
  subst ey
  cases (show w = Value.ref dd from ry)
  obtain ⟨zl, zs, us, pr, dof⟩ := dk_rd J1.hok rdd
  obtain ⟨epo, dat⟩ := dof.dictAt
  have ll : row.length = us.length := Paired.length pr
  have J2 : Inv X pn τ K1 { st1 with heap := st1.heap.push { cls := .type "dict_items", data := .fields #[.ref dd] } } := J1.kept (t' := st1.toks) fun c u z => Heap.get?_push_of_some _ z
  refine ⟨dof.typeIs, dof.mapOf.noDict, method_meetsIn F.slot_dict_items F.entry_dict_items rfl (PySem.evalArgs_none ⟨rfl, dof.typeIs, F.args_dict_items_1 _, _, meets_dict_items (mixKind X.prog X.w) dd zs, ⟨us, dof⟩, Calls.spliced_nil ?_⟩)⟩
  refine PySem.W.kdx_call (knd := mixKind X.prog X.w) (kvs := us) (ep := epo) (J1.ok.hd calm) ⟨_, Heap.get?_push_size _ rfl, rfl, rfl⟩ (dat.push _) (by omega) fun h' tk ac cc tt y1 y2 y3 y4 y5 => ?_
  obtain ⟨K', w1, w2, w3, w4, w5, w6, J3⟩ := LiI.items_laid (tk := tk) J2 zl pr y1 y2 y3 y4 y5
  exact ⟨.ref _, K', J3, rfl, fin K' _ tt w1 w2 w3 w4 w5 w6⟩
theorem so_listItms {f : Fe} {e : Expr} {p apos cpos pos : Pos} (hx : sc.names.lookup ("list" : Str) = some .globalImplicit) (hm : g.mg "list" = none) (hb : noSuper e = true) (hl : (apos.endLine == cpos.line) = true) (he : SoE g lv N sc f e) :
    SoE g lv N sc (fun env h => (f env h).bind listItmsV) (.Call (.Name "list" p) [.Call (.Attribute e "items" apos) [] [] cpos] [] pos) := by
  intro X W G ρ h H env σ Q r er q
  refine (pe_itmsR G.calm (self_e X e) (G.gl hx) (by rw [G.hmg]; exact hm) (base_plain hb _ X.env _) hl).se ?_
  refine he X W G ρ h H env σ _ r er (QR.imp (QR.bind q) fun x H1 ⟨ρ1, h1, v, s1, r1, t1, _, q1⟩ => ?_)
  cases v with
  | ref a =>
    unfold listItmsV at q1
    dsimp only at q1
    obtain ⟨ha, rfl⟩ := t1.of_ref
    split at q1
    · rename_i bb kvs ea
      obtain ⟨xs, e1, e2, dl⟩ := r1.dct (i := a) (vs := kvs) (by unfold rd; rw [ea]; rfl)
      refine ⟨_, xs, rfl, e1, fun H' p ts k hp hts hpt e3 pr => ?_⟩
      have off := r1.off_none hp
      have r2 := r1.more k
      have st := Stp.adopt (c := .lst (kvs.map fun kv => Val.tup [vKey kv.1, kv.2])) (Stp.more (ρ := ρ1) (h := h1) k) hp
      have t' : VRs g (ext ρ1 h1.length p) (h1.length + 1) H' (kvs.map fun kv => Val.tup [vKey kv.1, kv.2]) (ts.map L2.V.ref) := by
        have kk : KR g (ext ρ1 h1.length p) (h1.length + 1) H' kvs xs := by
          have := e2.step r1 st
          rw [List.length_append, List.length_singleton] at this
          exact this
        have ko := dl.2
        clear q1 st ea e1 e2 dl e3
        induction kvs generalizing xs ts with
        | nil =>
          rw [KR] at kk
          subst kk
          cases pr
          show VRs _ _ _ _ [] []
          rw [VRs]
        | cons kv kvs ih =>
          obtain ⟨ky, vv⟩ := kv
          rw [KR] at kk
          obtain ⟨x, xr, rfl, tv, kr⟩ := kk
          cases pr with
          | @cons t _ tr _ h1' h2' =>
            rw [List.map_cons, List.map_cons, VRs]
            refine ⟨_, _, rfl, ?_, ih xr tr (fun t ht => hts t (List.mem_cons_of_mem _ ht)) (fun hh => hpt (List.mem_cons_of_mem _ hh)) h2' kr (fun p hp => ko p (List.mem_cons_of_mem _ hp))⟩
            rw [VR]
            refine ⟨t, [kV ky, x], rfl, ⟨.inl (.inl h1'), fun z => by cases z⟩, ?_⟩
            rw [VRs]
            refine ⟨_, _, rfl, vkey_rel (ko (ky, vv) List.mem_cons_self), ?_⟩
            rw [VRs]
            exact ⟨_, _, rfl, tv, by rw [VRs]⟩
      refine q1 _ _ _ st (r2.adopt off ⟨?_, _, e3, t'⟩) ?_
      · rw [List.length_map]; exact dl.1
      · rw [VR]
        exact ⟨by simp, by rw [ext_new]⟩
    · exact q1.elim
  | _ => exact q1.elim
end
end MP
end
section
set_option autoImplicit false
set_option linter.all false
namespace MP
open PySem L2 PySem.Spec PyProof.Rows
section
variable {g : G} {lv : Nat} {N : List Str} {sc : Scope}
/-- what reading a field of a caught exception asks -/
structure XR (g : G) (c : Nat) (fld : Str) : Prop where
  ga : PySem.W.findIn g.K (.ref (g.C c)) "__getattribute__" = some (some (.builtin "BaseException.__getattribute__"))
  gg : ∃ gt, PySem.W.findIn g.K (.ref (g.C c)) "__getattr__" = some gt
  ex : PySem.W.subIn g.K (.ref (g.C c)) (.type "BaseException") = some true
  hd : PySem.W.hasDictIn g.K (g.C c) = true
  no : PySem.W.findIn g.K (.ref (g.C c)) fld = some none
/-- the state of a suite: an exception of class c at a, its dict at d -/
structure Hot (g : G) (X : Cx) (c i : Nat) (fs : List (Str × Val)) (a d : Addr) (oe : Obj) (ρ : Nat → Addr) (h : Heap) (H : Hp) (env : Env) (σ : L2.St) : Prop where
  rel : Rel g ρ h H
  er : ER g ρ h.length H env σ
  sl : σ[i]? = some (some (.ref a))
  zc : Zc (.ref (g.C c)) (some d) oe
  dt : ∃ vs, oe.data = .fields vs
  xd : ∃ xs, H d = some (.xd xs) ∧ KR g ρ h.length H fs xs
/-- an atom of a suite -/
def SoH (g : G) (lv : Nat) (N : List Str) (sc : Scope) (c i : Nat) (f : List (Str × Val) → Env → Option Val) (e : Expr) : Prop :=
  ∀ (X : Cx) (W : WX), Good g X N sc W lv → ∀ fs a d oe pn ρ h H env σ, Hot g X c i fs a d oe ρ h H env σ → ∀ (v : Val) (Q : VK), f fs env = some v → (∀ x, VR g ρ h.length H v x → Q x H) → SE (X.suite a ((a, oe) :: pn)) e σ H Q
variable {c i : Nat}
theorem h_int {j : Int} {k : Nat} {pos : Pos} : SoH g lv N sc c i (fun _ _ => some (.int j)) (.Constant (.int j) k pos) := by
  intro X W G fs a d oe pn ρ h H env σ hot v Q e q
  cases e
  exact pe_int.se (q _ VR.int)
theorem h_str {z : Str} {k : Nat} {pos : Pos} (hz : z.length ≤ sizeLine) : SoH g lv N sc c i (fun _ _ => some (.str z)) (.Constant (.str z) k pos) := by
  intro X W G fs a d oe pn ρ h H env σ hot v Q e q
  cases e
  exact pe_str.se (q _ (VR.str hz))
theorem h_non {k : Nat} {pos : Pos} : SoH g lv N sc c i (fun _ _ => some .non) (.Constant .none k pos) := by
  intro X W G fs a d oe pn ρ h H env σ hot v Q e q
  cases e
  exact pe_non.se (q _ (by rw [VR]))
theorem h_bl {b : Bool} {k : Nat} {pos : Pos} : SoH g lv N sc c i (fun _ _ => some (.bl b)) (.Constant (.bool b) k pos) := by
  intro X W G fs a d oe pn ρ h H env σ hot v Q e q
  cases e
  exact pe_bl.se (q _ (by rw [VR]))
theorem h_fld {n fld : Str} {p pos : Pos} (K : XR g c fld) (hN : N[i]? = some n) (hv : Vis sc n) (hd : (n == ("__debug__" : Str)) = false) (hcd : (n == ("__classdict__" : Str)) = false) : SoH g lv N sc c i (fun fs _ => fs.lookup fld) (.Attribute (.Name n p) fld pos) := by
  intro X W G fs a d oe pn ρ h H env σ hot v Q e q pins s I
  obtain ⟨xs, hx, kr⟩ := hot.xd
  obtain ⟨x, l1, l2⟩ := kr.lookup_some e
  refine attr_of (base_plain rfl fld X.env _) ?_
  have pv := (pe_var (X := X.suite a ((a, oe) :: pn)) (i := i) (pos := p) (by show X.N[i]? = some n; rw [G.hN]; exact hN) (G.hsc.vis hv) hd hcd).se (σ := σ) (H := H) (Q := fun y H' => y = .ref a ∧ H' = H) ⟨_, hot.sl, rfl, rfl⟩
  refine thn (pv pins s I) fun u s1 ⟨y, H1, I1, ry, ey, eH⟩ => ?_
  subst ey eH
  obtain rfl : u = Value.ref a := ry
  obtain ⟨ha, _⟩ := I1.pin (a, oe) (List.mem_append_left _ List.mem_cons_self)
  obtain ⟨vs, hdt⟩ := hot.dt
  have hob : ObjOk X.prog X.w H1 s1.heap d (.xd xs) := I1.hok d _ hx
  obtain ⟨mA, hns, hr⟩ := hob
  obtain ⟨od, ho, hl⟩ := lookIn_ns hns
  obtain ⟨u, hu, ru⟩ := RelO.some_of (v := x) (o := mA fld) (by rw [← l1]; exact hr fld)
  have J : PySem.W.InstAt s1.heap a oe (g.C c) (some od) := ⟨ha, hot.zc.1, by unfold PySem.W.notCls; rw [hdt] <;> rfl, by rw [hot.zc.2]; exact ho⟩
  obtain ⟨gt, gg⟩ := K.gg
  have kk : g.K = X.K := G.hK.symm
  have ga := K.ga
  have ex := K.ex
  have hdi := K.hd
  have no := K.no
  rw [kk] at ga gg ex hdi no
  exact HandSPX.exc_get I1.kIn J ga gg ex (PySem.W.findObj_own hdi no rfl (by rw [hl, hu])) (handed_of ru) ⟨x, H1, I1.tok _, ru, q x l2⟩
/-- an expression of a suite -/
def SoHE (g : G) (lv : Nat) (N : List Str) (sc : Scope) (c i : Nat) (f : List (Str × Val) → Env → Heap → Rs Val) (e : Expr) : Prop :=
  ∀ (X : Cx) (W : WX), Good g X N sc W lv → ∀ fs a d oe pn ρ h H env σ, Hot g X c i fs a d oe ρ h H env σ → ∀ (Q : VK), QR g (VR g) (fun _ _ _ _ => False) ρ h H σ (f fs env h) Q → SE (X.suite a ((a, oe) :: pn)) e σ H Q
theorem he_atom {f : List (Str × Val) → Env → Option Val} {e : Expr} (hf : SoH g lv N sc c i f e) : SoHE g lv N sc c i (fun fs env h => opt (f fs env) h) e := by
  intro X W G fs a d oe pn ρ h H env σ hot Q q
  dsimp only at q
  cases z : f fs env with
  | none => rw [z] at q; exact q.elim
  | some v =>
    rw [z] at q
    exact hf X W G fs a d oe pn ρ h H env σ hot v Q z fun x t => QR.ok (T := VR g) hot.rel t q
def hAll (l : List (List (Str × Val) → Env → Option Val)) (fs : List (Str × Val)) (env : Env) : Option (List Val) := match l with
  | [] => some []
  | f :: r => (match f fs env, hAll r fs env with
    | some v, some vs => some (v :: vs)
    | _, _ => none)
inductive SoHs (g : G) (lv : Nat) (N : List Str) (sc : Scope) (c i : Nat) : List (List (Str × Val) → Env → Option Val) → List Expr → Prop
  | nil : SoHs g lv N sc c i [] []
  | cons {f : List (Str × Val) → Env → Option Val} {e : Expr} {l : List (List (Str × Val) → Env → Option Val)} {es : List Expr} : isSt e = false → SoH g lv N sc c i f e → SoHs g lv N sc c i l es → SoHs g lv N sc c i (f :: l) (e :: es)
theorem ha_all {l : List (List (Str × Val) → Env → Option Val)} {es : List Expr} (hs : SoHs g lv N sc c i l es) : ∀ (X : Cx) (W : WX), Good g X N sc W lv → ∀ fs a d oe pn ρ h H env σ, Hot g X c i fs a d oe ρ h H env σ → ∀ (vs : List Val) (Q : List L2.V → Hp → Prop), hAll l fs env = some vs → (∀ xs, VRs g ρ h.length H vs xs → Q xs H) → SA (X.suite a ((a, oe) :: pn)) es σ H Q := by
  induction hs with
  | nil =>
    intro X W G fs a d oe pn ρ h H env σ hot vs Q e q pos pins s I
    cases e
    exact (pa_nil (X := X.suite a ((a, oe) :: pn))).run pos pins s σ H Q I (q [] (by rw [VRs]))
  | @cons f ex l es hst hf hs ih =>
    intro X W G fs a d oe pn ρ h H env σ hot vs Q e q pos pins s I
    unfold hAll at e
    cases z1 : f fs env with
    | none => rw [z1] at e; cases e
    | some v =>
      cases z2 : hAll l fs env with
      | none => rw [z1, z2] at e; cases e
      | some vr =>
        rw [z1, z2] at e
        cases e
        refine (pa_cons (X := X.suite a ((a, oe) :: pn)) (self_e _ ex) (self_a _ es) (starEach_plain hst es X.env)).run pos pins s σ H Q I ?_
        refine hf X W G fs a d oe pn ρ h H env σ hot v _ z1 fun x tx => ?_
        refine ih X W G fs a d oe pn ρ h H env σ hot vr _ z2 fun xs txs => ?_
        refine q (x :: xs) ?_
        rw [VRs]
        exact ⟨x, xs, rfl, tx, txs⟩
def hTup (l : List (List (Str × Val) → Env → Option Val)) (fs : List (Str × Val)) (env : Env) (h : Heap) : Rs Val := match hAll l fs env with
  | some vs => if vs.length ≤ lim ∧ vs ≠ [] then .ok (.tup vs) h else .bad
  | none => .bad
theorem he_tup {l : List (List (Str × Val) → Env → Option Val)} {es : List Expr} {k : Nat} {pos : Pos} (hs : SoHs g lv N sc c i l es) : SoHE g lv N sc c i (hTup l) (.Tuple es k pos) := by
  intro X W G fs a d oe pn ρ h H env σ hot Q q
  unfold hTup at q
  cases z : hAll l fs env with
  | none => rw [z] at q; exact q.elim
  | some vs =>
    rw [z] at q
    dsimp only at q
    by_cases hl : vs.length ≤ lim ∧ vs ≠ []
    · rw [if_pos hl] at q
      refine (pe_tup (X := X.suite a ((a, oe) :: pn)) (self_a _ es)).se ?_
      refine ha_all hs X W G fs a d oe pn ρ h H env σ hot vs _ z fun xs t => ?_
      exact ⟨by rw [← t.length]; exact lim_le hl.1, fun p hp => new_tup hot.rel hl.2 t q p hp⟩
    · rw [if_neg hl] at q; exact q.elim
abbrev Fh := List (Str × Val) → Env → Heap → SR
def SoHS (g : G) (lv : Nat) (N : List Str) (sc : Scope) (c i : Nat) (f : Fh) (st : List Stmt) : Prop :=
  ∀ (X : Cx) (W : WX), Good g X N sc W lv → ∀ fs a d oe pn ρ h H env σ, Hot g X c i fs a d oe ρ h H env σ → ∀ (D : Ends), QS g (fun _ _ _ _ => False) ρ h H (f fs env h) D → SSs (X.suite a ((a, oe) :: pn)) st D σ H
def hSet (j : Nat) (f : List (Str × Val) → Env → Heap → Rs Val) : Fh := fun fs env h => liftS (f fs env h) env fun v h1 => .nx (env.set j (some v)) h1
def hRet (f : List (Str × Val) → Env → Heap → Rs Val) : Fh := fun fs env h => liftS (f fs env h) env fun v h1 => .rt v h1
theorem hs_set {j : Nat} {f : List (Str × Val) → Env → Heap → Rs Val} {n : Str} {e : Expr} {p pos : Pos} (hN : N[j]? = some n) (hx : sc.names.lookup n = some .local) (hc : isComp e = false) (he : SoHE g lv N sc c i f e) : SoHS g lv N sc c i (hSet j f) [.Assign [.Name n p] e pos] := by
  intro X W G fs a d oe pn ρ h H env σ hot D q
  have hl := G.hsc.same (by decide) hx
  refine (pss_one (ps_set (X := X.suite a ((a, oe) :: pn)) (i := j) G.nd (by show X.N[j]? = some n; rw [G.hN]; exact hN) (.inl hl) (self_e _ e) (swaps_no hc _ _ _) (.inr hl))).se ?_
  refine he X W G fs a d oe pn ρ h H env σ hot _ (QR.imp (QS.lift (T := VR g) hot.rel hot.er q) fun x H1 ⟨ρ1, h1, v, s1, r1, t1, _, q1⟩ => ?_)
  exact q1 ρ1 H1 _ (Stp.refl ..) r1 ((hot.er.step hot.rel s1).set t1)
theorem hs_ret {f : List (Str × Val) → Env → Heap → Rs Val} {e : Expr} {pos : Pos} (he : SoHE g lv N sc c i f e) : SoHS g lv N sc c i (hRet f) [.Return (some e) pos] := by
  intro X W G fs a d oe pn ρ h H env σ hot D q
  refine (pss_one (ps_ret (X := X.suite a ((a, oe) :: pn)) (self_e _ e))).se ?_
  refine he X W G fs a d oe pn ρ h H env σ hot _ (QR.imp (QS.lift (T := VR g) hot.rel hot.er q) fun x H1 ⟨ρ1, h1, v, s1, r1, t1, _, q1⟩ => ?_)
  exact q1 ρ1 H1 x (Stp.refl ..) r1 t1
/-- behind the suite the name is gone -/
def goneS (i : Nat) (r : SR) : SR := match r with
  | .nx env h => .nx (env.set i none) h
  | .bk env h => .bk (env.set i none) h
  | .ct env h => .ct (env.set i none) h
  | .rt v h => .rt v h
  | _ => .bad
def sTry (fb : Fs) (xm : Nat → Nat → Option Bool) (c i : Nat) (su : Fh) : Fs := fun env h => match fb env h with
  | .ex env' c' fs h' => (match xm c' c with
    | some true => if c' = c ∧ i < env'.length then goneS i (su fs (env'.set i none) h') else .bad
    | some false => .ex env' c' fs h'
    | none => .bad)
  | r => r
theorem ER.wipe {ρ : Nat → Addr} {n : Nat} {H : Hp} {env : Env} {σ : L2.St} (e : ER g ρ n H env σ) (i : Nat) (o : Option L2.V) : ER g ρ n H (env.set i none) (σ.set i o) := by
  refine ⟨by rw [List.length_set, List.length_set]; exact e.len, fun j v z => ?_⟩
  by_cases h : i = j
  · subst h
    by_cases hl : i < env.length
    · rw [List.getElem?_set_self hl] at z; cases z
    · rw [List.getElem?_eq_none (by rw [List.length_set]; omega)] at z; cases z
  · rw [List.getElem?_set_ne h] at z
    obtain ⟨x, e1, e2⟩ := e.val j v z
    exact ⟨x, by rw [List.getElem?_set_ne h]; exact e1, e2⟩
/-- a statement at the top of a def -/
def SoSF (g : G) (lv : Nat) (N : List Str) (sc : Scope) (f : Fs) (st : Stmt) : Prop :=
  ∀ (X : Cx) (W : WX), Good g X N sc W lv → X.stack = X.env :: X.outer → X.env.frame = some X.env.locals → ∀ (ρ : Nat → Addr) (h : Heap) (H : Hp) (env : Env) (σ : L2.St) (D : Ends), Rel g ρ h H → ER g ρ h.length H env σ → QS g W ρ h H (f env h) D → SSt X st D σ H
def SoSsF (g : G) (lv : Nat) (N : List Str) (sc : Scope) (f : Fs) (st : List Stmt) : Prop :=
  ∀ (X : Cx) (W : WX), Good g X N sc W lv → X.stack = X.env :: X.outer → X.env.frame = some X.env.locals → ∀ (ρ : Nat → Addr) (h : Heap) (H : Hp) (env : Env) (σ : L2.St) (D : Ends), Rel g ρ h H → ER g ρ h.length H env σ → QS g W ρ h H (f env h) D → SSs X st D σ H
theorem SoS.top {f : Fs} {st : Stmt} (h : SoS g lv N sc f st) : SoSF g lv N sc f st := fun X W G _ _ => h X W G
theorem sf_nil : SoSsF g lv N sc (fun env h => .nx env h) [] := fun X W G _ _ => ss_nil X W G
theorem sf_cons {f1 f2 : Fs} {st : Stmt} {rest : List Stmt} (h1 : SoSF g lv N sc f1 st) (h2 : SoSsF g lv N sc f2 rest) : SoSsF g lv N sc (fun env h => (f1 env h).andThen f2) (st :: rest) := by
  intro X W G hs hf ρ h H env σ D r er q
  refine (pss_cons (self_s X st) (self_ss X rest)).se ?_
  refine h1 X W G hs hf ρ h H env σ _ r er ?_
  have q' : QS g W ρ h H ((f1 env h).andThen f2) D := q
  cases z : f1 env h with
  | nx env' h' =>
    rw [z] at q'
    intro ρ' H' σ' s' r' er'
    exact h2 X W G hs hf ρ' h' H' env' σ' D r' er' (QS.step s' q')
  | rt v h' => rw [z] at q'; exact q'
  | bk v h' => rw [z] at q'; exact q'
  | ct v h' => rw [z] at q'; exact q'
  | ex e c fs h' => rw [z] at q'; exact q'
  | bad => rw [z] at q'; exact q'
def XmOk (g : G) (xm : Nat → Nat → Option Bool) : Prop := ∀ c' c b, xm c' c = some b → PySem.W.exmOne g.K (.ref (g.C c')) (.ref (g.C c)) = some b
theorem s_try {fb : Fs} {xm : Nat → Nat → Option Bool} {su : Fh} {body suite : List Stmt} {b₀ : Stmt} {x n : Str} {np pos pos' : Pos} (M : XmOk g xm) (hx : sc.names.lookup x = some .globalImplicit) (hdb : (x == ("__debug__" : Str)) = false) (hm : g.mg x = some (.ref (g.C c)))
    (hN : N[i]? = some n) (hn : sc.names.lookup n = some .local) (hb : SoSs g lv N sc fb body) (hsu : SoHS g lv N sc c i su (b₀ :: suite)) :
    SoSF g lv N sc (sTry fb xm c i su) (.Try body [.ExceptHandler (some (.Name x np)) (some n) (b₀ :: suite) pos'] [] [] pos) := by
  intro X W G hs hf ρ h H env σ D r er q
  have hl := G.hsc.same (by decide) hn
  refine (ps_try_as (i := i) (c := .ref (g.C c)) (Wout := W) (tb := fun W' => fun D σ H => ∀ (pn : List (Addr × Obj)) (xe : Value → Shared → Prop), Takes (X.tr pn xe) W' → PassesOwn (model X.prog X.w) X.A X.env xe → SSs (X.tr pn xe) body D σ H)
    (ts := fun a cls d => fun D σ H => ∀ (oe : Obj) (pn : List (Addr × Obj)), Zc cls d oe → (∃ vs, oe.data = .fields vs) → SSs (X.suite a ((a, oe) :: pn)) (b₀ :: suite) D σ H)
    hs hf G.nd (by rw [G.hN]; exact hN) hl ⟨G.gl hx, hdb, .inl (by rw [G.hmg]; exact hm)⟩ G.tk (fun W' pn xe tk po => ⟨fun pins s σ H D I h => h pn xe tk po pins s I⟩) (fun a oe cls d pn hz hd => ⟨fun pins s σ H D I h => h oe pn hz hd pins s I⟩)).se ?_
  intro pn xe tk po
  refine hb (X.tr pn xe) _ ⟨G.hP, G.hw, G.hK, G.hmg, G.hbase, G.hN, G.nd, G.hsc, G.calm, G.room, tk, po, G.cell⟩ ρ h H env σ D r er ?_
  have q' : QS g W ρ h H (match fb env h with
    | .ex env' c' fs h' => (match xm c' c with
      | some true => if c' = c ∧ i < env'.length then goneS i (su fs (env'.set i none) h') else .bad
      | some false => .ex env' c' fs h'
      | none => .bad)
    | r => r) D := q
  cases z : fb env h with
  | nx env' h' => rw [z] at q'; exact q'
  | rt v h' => rw [z] at q'; exact q'
  | bk v h' => rw [z] at q'; exact q'
  | ct v h' => rw [z] at q'; exact q'
  | bad => rw [z] at q'; exact q'
  | ex env' c' fs h' =>
    rw [z] at q'
    dsimp only at q'
    intro ρ' H' σ' d xs st rl er' hd kr
    cases zx : xm c' c with
    | none => rw [zx] at q'; exact q'.elim
    | some b =>
      have me := M c' c b zx
      cases b with
      | false =>
        rw [zx] at q'
        exact ⟨false, by rw [G.hK]; exact me, fun e => Bool.noConfusion e, fun _ => q' ρ' H' σ' d xs st rl er' hd kr⟩
      | true =>
        rw [zx] at q'
        dsimp only at q'
        by_cases hc : c' = c ∧ i < env'.length
        · rw [if_pos hc] at q'
          obtain ⟨rfl, hi⟩ := hc
          refine ⟨true, by rw [G.hK]; exact me, fun _ a na oe pn' hz hdt => ?_, fun e => Bool.noConfusion e⟩
          have q2 := QS.step st q'
          refine hsu X W G fs a d oe pn' ρ' h' H' (env'.set i none) (σ'.set i (some (.ref a))) ⟨rl, er'.wipe i _, List.getElem?_set_self (by rw [← er'.len]; exact hi), hz, hdt, xs, hd, kr⟩ _ ?_
          cases zs : su fs (env'.set i none) h' with
          | nx e2 h2 =>
            rw [zs] at q2
            exact fun ρ2 H2 σ2 s2 r2 er2 => q2 ρ2 H2 _ s2 r2 (er2.wipe i none)
          | bk e2 h2 =>
            rw [zs] at q2
            exact fun ρ2 H2 σ2 s2 r2 er2 => q2 ρ2 H2 _ s2 r2 (er2.wipe i none)
          | ct e2 h2 =>
            rw [zs] at q2
            exact fun ρ2 H2 σ2 s2 r2 er2 => q2 ρ2 H2 _ s2 r2 (er2.wipe i none)
          | rt v h2 => rw [zs] at q2; exact q2
          | ex e2 c2 f2 h2 => rw [zs] at q2; exact q2.elim
          | bad => rw [zs] at q2; exact q2.elim
        · rw [if_neg hc] at q'; exact q'.elim
end
end MP
end
section
set_option autoImplicit false
set_option Elab.async false
set_option linter.all false
set_option maxRecDepth 100000
set_option maxHeartbeats 2000000
namespace MP
open PySem L2
section
variable {g : G} {lv : Nat} {N : List Str} {sc : Scope}
def eStar (f : Fe) (fs : Env → Heap → Rs (List Val)) : Env → Heap → Rs (List Val) := fun env h => (f env h).bind fun v h1 => match rowOf v h1 with
  | some xs => (fs env h1).bind fun vs h2 => .ok (xs ++ vs) h2
  | none => .bad
theorem VRs.app {ρ : Nat → Addr} {n : Nat} {H : Hp} : ∀ {vs ws : List Val} {xs ys : List L2.V}, VRs g ρ n H vs xs → VRs g ρ n H ws ys → VRs g ρ n H (vs ++ ws) (xs ++ ys)
  | [], ws, xs, ys, t, u => by rw [VRs] at t; subst t; exact u
  | v :: vs, ws, xs, ys, t, u => by
    rw [VRs] at t
    obtain ⟨x, xr, rfl, t1, t2⟩ := t
    show VRs g ρ n H (v :: (vs ++ ws)) (x :: (xr ++ ys))
    rw [VRs]
    exact ⟨x, xr ++ ys, rfl, t1, VRs.app t2 u⟩
theorem sa_star {f : Fe} {fs : Env → Heap → Rs (List Val)} {e : Expr} {p : Pos} {es : List Expr} (hs : ∀ env, starEach (.Starred e p :: es) env = (true, PySem.eval e env) :: starEach es env) (ha : SoE g lv N sc f e) (hb : SoA g lv N sc fs es) : SoA g lv N sc (eStar f fs) (.Starred e p :: es) := by
  intro X W G ρ h H env σ Q r er q
  refine (StX.pa_star (self_e X e) (self_a X es) (hs X.env)).se ?_
  refine ha X W G ρ h H env σ _ r er (QR.imp (QR.bind q) fun vx H1 ⟨ρ1, h1, x, s1, r1, t1, _, q1⟩ => ?_)
  cases z : rowOf x h1 with
  | none => rw [z] at q1; exact q1.elim
  | some vs =>
    rw [z] at q1
    dsimp only at q1
    obtain ⟨a, xs, rfl, e1, e2⟩ := rowOf_ok r1 t1 z
    refine ⟨a, xs, rfl, by rw [G.hK]; exact e1, ?_⟩
    refine hb X W G ρ1 h1 H1 env σ _ r1 (er.step r s1) (QR.imp (QR.bind q1) fun vy H2 ⟨ρ2, h2, y, s2, r2, t2, _, q2⟩ => ?_)
    exact QR.ok (T := VRs g) r2 (VRs.app (e2.step r1 s2) t2) q2
def fmtV (v : Val) (h : Heap) : Rs Val := match v with
  | .str y => .ok (.str y) h
  | .int i => if i.natAbs.log2 < 1000 then .ok (.str (toString i)) h else .bad
  | _ => .bad
theorem so_fmt {f : Fe} {e : Expr} {pos : Pos} (ha : SoE g lv N sc f e) : SoE g lv N sc (fun env h => (f env h).bind fmtV) (.FormattedValue e (-1) none pos) := by
  intro X W G ρ h H env σ Q r er q
  refine (pe_fmt (self_e X e)).se ?_
  refine ha X W G ρ h H env σ _ r er (QR.imp (QR.bind q) fun vx H1 ⟨ρ1, h1, x, s1, r1, t1, _, q1⟩ => ?_)
  cases x with
  | str y =>
    obtain ⟨rfl, hz⟩ := t1.of_str
    exact .inl ⟨y, rfl, hz, QR.ok (T := VR g) r1 t1 q1⟩
  | int i =>
    cases t1.of_int
    by_cases hl : i.natAbs.log2 < 1000
    · unfold fmtV at q1
      dsimp only at q1
      rw [if_pos hl] at q1
      exact .inr ⟨i, rfl, by omega, QR.ok (T := VR g) r1 (VR.str (int_text_fits (by omega))) q1⟩
    · unfold fmtV at q1
      dsimp only at q1
      rw [if_neg hl] at q1
      exact q1.elim
  | _ => exact q1.elim
/-- the parts one behind the other -/
def eJs : List Fe → Str → Fe
  | [], acc, _, h => .ok (.str acc) h
  | f :: fs, acc, env, h => (f env h).bind fun v h1 => match v with
    | .str y => if (acc ++ y).length ≤ lim then eJs fs (acc ++ y) env h1 else .bad
    | _ => .bad
inductive SoJ (g : G) (lv : Nat) (N : List Str) (sc : Scope) : List Fe → List Expr → Prop where
  | nil : SoJ g lv N sc [] []
  | cons {f : Fe} {e : Expr} {fs : List Fe} {es : List Expr} (h : SoE g lv N sc f e) (r : SoJ g lv N sc fs es) : SoJ g lv N sc (f :: fs) (e :: es)
theorem pj_self (X : Cx) : ∀ es : List Expr, PJ X es (es.map (SE X))
  | [] => .nil
  | e :: es => .cons (self_e X e) (pj_self X es)
theorem js_go {fs : List Fe} {es : List Expr} (J : SoJ g lv N sc fs es) (X : Cx) (W : WX) (G : Good g X N sc W lv) (env : Env) (σ : L2.St) (Q : VK) : ∀ (ρ : Nat → Addr) (h : Heap) (H : Hp) (acc : Str), acc.length ≤ lim → Rel g ρ h H → ER g ρ h.length H env σ → QR g (VR g) W ρ h H σ (eJs fs acc env h) Q → tJs (es.map (SE X)) acc σ H fun out H1 => Q (.str out) H1 := by
  induction J with
  | nil =>
    intro ρ h H acc hl r er q
    exact QR.ok (T := VR g) r (VR.str (lim_le hl)) q
  | @cons f e fs es hf _ ih =>
    intro ρ h H acc hl r er q
    refine hf X W G ρ h H env σ _ r er (QR.imp (QR.bind q) fun vx H1 ⟨ρ1, h1, x, s1, r1, t1, _, q1⟩ => ?_)
    cases x with
    | str y =>
      obtain ⟨rfl, hz⟩ := t1.of_str
      dsimp only at q1
      by_cases hy : (acc ++ y).length ≤ lim
      · rw [if_pos hy] at q1
        exact ⟨y, rfl, lim_le hy, ih ρ1 h1 H1 _ hy r1 (er.step r s1) q1⟩
      · rw [if_neg hy] at q1; exact q1.elim
    | _ => exact q1.elim
theorem so_joined {fs : List Fe} {v1 v2 : Expr} {es : List Expr} {pos : Pos} (J : SoJ g lv N sc fs (v1 :: v2 :: es)) : SoE g lv N sc (eJs fs Str.empty) (.JoinedStr (v1 :: v2 :: es) pos) := by
  intro X W G ρ h H env σ Q r er q
  exact (pe_joined (pj_self X (v1 :: v2 :: es))).se (js_go J X W G env σ Q ρ h H Str.empty (Nat.zero_le _) r er q)
theorem so_joined1 {f : Fe} {e : Expr} {pos : Pos} (ha : SoE g lv N sc f e) : SoE g lv N sc f (.JoinedStr [e] pos) := by
  intro X W G ρ h H env σ Q r er q
  exact (pe_joined1 (self_e X e)).se (ha X W G ρ h H env σ Q r er q)
theorem bf_str : SoF1 g lv (.type "str") fmtV := by
  intro X W N sc G ρ h H σ v x Q r t q
  cases v with
  | str y =>
    obtain ⟨rfl, hz⟩ := t.of_str
    exact SkE.call_str_str.se ⟨y, rfl, QR.ok (T := VR g) r t q⟩
  | int i =>
    cases t.of_int
    unfold fmtV at q
    dsimp only at q
    by_cases hl : i.natAbs.log2 < 1000
    · rw [if_pos hl] at q
      exact call_str_int.se ⟨i, rfl, by omega, QR.ok (T := VR g) r (VR.str (int_text_fits (by omega))) q⟩
    · rw [if_neg hl] at q
      exact q.elim
  | _ => exact q.elim
def tyV : Val → Option Ty
  | .ty n => some (.b n)
  | .cls c => some (.c c)
  | _ => none
/-- is it of one of these types -/
def anyT (tt : Ty → Ty → Option Bool) (t : Ty) : List Val → Option Bool
  | [] => some false
  | v :: vs => match tyV v with
    | some u => (match tt t u with
      | some true => some true
      | some false => anyT tt t vs
      | none => none)
    | none => none
def isiT (tt : Ty → Ty → Option Bool) (v : Val) (vs : List Val) (h : Heap) : Rs Val := match tyOf v h with
  | some t => (match anyT tt t vs with
    | some b => .ok (.bl b) h
    | none => .bad)
  | none => .bad
theorem isi_any {tt : Ty → Ty → Option Bool} {ρ : Nat → Addr} {n : Nat} {H : Hp} {t : Ty} (T : TtOk g tt) : ∀ {vs : List Val} {xs : List L2.V} {its : List Value} {b : Bool}, VRs g ρ n H vs xs → Vals xs its → anyT tt t vs = some b → PySem.W.kitAny g.K (t.v g) its = some b
  | [], xs, its, b, t1, t2, e => by
    rw [VRs] at t1
    subst t1
    cases t2
    exact e
  | v :: vs, xs, its, b, t1, t2, e => by
    rw [VRs] at t1
    obtain ⟨x, xr, rfl, t1, t3⟩ := t1
    cases t2 with
    | @cons _ i _ ir r1 r2 =>
    unfold anyT at e
    cases zv : tyV v with
    | none => rw [zv] at e; cases e
    | some u =>
      rw [zv] at e
      dsimp only at e
      have hi : i = u.v g := by
        cases v with
        | ty m => cases zv; rw [VR] at t1; subst t1; exact r1
        | cls c => cases zv; rw [VR] at t1; subst t1; exact r1
        | _ => cases zv
      subst hi
      unfold PySem.W.kitAny
      cases zt : tt t u with
      | none => rw [zt] at e; cases e
      | some k =>
        rw [zt] at e
        rw [T.one _ _ _ zt]
        cases k with
        | true => exact e
        | false => exact isi_any T t3 r2 e
def isiW (tt : Ty → Ty → Option Bool) (vs : List Val) (h : Heap) : Rs Val := match vs with
  | [v, .tup (u :: us)] => isiT tt v (u :: us) h
  | vs => isiV tt vs h
theorem anyT_ins {g : G} {tt : Ty → Ty → Option Bool} (T : TtOk g tt) {c : Nat} {vs : List Val} {b : Bool} (hne : vs ≠ []) (e : anyT tt (.c c) vs = some b) : InsTy g c := by
  cases vs with
  | nil => exact absurd rfl hne
  | cons v vs =>
    unfold anyT at e
    cases zv : tyV v with
    | none => rw [zv] at e; cases e
    | some u =>
      rw [zv] at e
      dsimp only at e
      cases zt : tt (.c c) u with
      | none => rw [zt] at e; cases e
      | some k => exact T.ins c u k zt
theorem bf_isiW {tt : Ty → Ty → Option Bool} (T : TtOk g tt) : SoF g lv (.builtin "isinstance") (isiW tt) := by
  intro X W N sc G ρ h H σ vs xs Q r t q
  match vs, q, t with
  | [v, .tup (u :: us)], q, t =>
    rw [VRs] at t
    obtain ⟨x, xr, rfl, t1, t⟩ := t
    rw [VRs] at t
    obtain ⟨y, xr, rfl, t2, t⟩ := t
    rw [VRs] at t
    subst t
    simp only [isiW, isiT] at q
    cases z : tyOf v h with
    | none => rw [z] at q; exact q.elim
    | some ty =>
      rw [z] at q
      dsimp only at q
      cases zt : anyT tt ty (u :: us) with
      | none => rw [zt] at q; exact q.elim
      | some b =>
        rw [zt] at q
        obtain ⟨a, ys, rfl, e1, e2⟩ := t2.of_tup
        have ty1 := tyX_ok r t1 z fun c e => anyT_ins T (List.cons_ne_nil _ _) (by rw [← e]; exact zt)
        rw [← G.hK] at ty1 e1
        intro pins s σ us' I rv
        obtain ⟨u1, u2, rfl, r1, r2⟩ := vals2 rv
        cases (show u2 = Value.ref a from r2)
        obtain ⟨P, Z, p, hx⟩ := kit_of I r1 ty1
        obtain ⟨its, o, n, rv2, h1, h2, h3⟩ := sqT_at I.hok I.kIn e1
        obtain ⟨oc, od, dt, sl⟩ := o
        simp only at h2 h3
        subst h2 h3
        exact PySem.W.kia_tup Z I.kIn p h1 (by rw [G.hK]; exact isi_any T e2 rv2 zt) hx fun tk => ⟨.bl b, H, I.tok tk, rfl, QR.ok (T := VR g) r VR.bl q⟩
  | [], q, t => exact bf_isi T X W N sc G ρ h H σ _ xs Q r t q
  | [_], q, t => exact bf_isi T X W N sc G ρ h H σ _ xs Q r t q
  | a :: b :: c :: d, q, t => exact bf_isi T X W N sc G ρ h H σ _ xs Q r t (by cases b with | tup zs => cases zs <;> exact q | _ => exact q)
  | [_, .non], q, t => exact bf_isi T X W N sc G ρ h H σ _ xs Q r t q
  | [_, .bl _], q, t => exact bf_isi T X W N sc G ρ h H σ _ xs Q r t q
  | [_, .int _], q, t => exact bf_isi T X W N sc G ρ h H σ _ xs Q r t q
  | [_, .str _], q, t => exact bf_isi T X W N sc G ρ h H σ _ xs Q r t q
  | [_, .ref _], q, t => exact bf_isi T X W N sc G ρ h H σ _ xs Q r t q
  | [_, .tup []], q, t => exact bf_isi T X W N sc G ρ h H σ _ xs Q r t q
  | [_, .scr _], q, t => exact bf_isi T X W N sc G ρ h H σ _ xs Q r t q
  | [_, .ty _], q, t => exact bf_isi T X W N sc G ρ h H σ _ xs Q r t q
  | [_, .cls _], q, t => exact bf_isi T X W N sc G ρ h H σ _ xs Q r t q
end
end MP
end
section
set_option autoImplicit false
set_option Elab.async false
set_option linter.all false
set_option maxRecDepth 100000
set_option maxHeartbeats 2000000
namespace MP
open PySem L2
section
variable {g : G} {lv : Nat} {N : List Str} {sc : Scope}
def ePs : List (Fe × Fe) → Env → Heap → Rs (List (Key × Val))
  | [], _, h => .ok [] h
  | (fk, fv) :: r, env, h => (fk env h).bind fun k h1 => (fv env h1).bind fun v h2 => (ePs r env h2).bind fun ps h3 => match keyV k with
    | some k => .ok ((k, v) :: ps) h3
    | none => .bad
inductive SoDp (g : G) (lv : Nat) (N : List Str) (sc : Scope) : List (Fe × Fe) → List (Option Expr) → List Expr → Prop where
  | nil : SoDp g lv N sc [] [] []
  | cons {fk fv : Fe} {k v : Expr} {fs : List (Fe × Fe)} {ks : List (Option Expr)} {vs : List Expr} (h1 : SoE g lv N sc fk k) (h2 : SoE g lv N sc fv v) (r : SoDp g lv N sc fs ks vs) : SoDp g lv N sc ((fk, fv) :: fs) (some k :: ks) (v :: vs)
def selfP (X : Cx) : List (Option Expr) → List Expr → List (TE × TE)
  | some k :: ks, v :: vs => (SE X k, SE X v) :: selfP X ks vs
  | _, _ => []
theorem pps_self (X : Cx) (pos : Pos) {fs : List (Fe × Fe)} {ks : List (Option Expr)} {vs : List Expr} (J : SoDp g lv N sc fs ks vs) : PPs X pos ks vs (selfP X ks vs) := by
  induction J with
  | nil => exact pps_nil
  | cons h1 h2 r ih => exact pps_cons (self_e X _) (self_e X _) ih
theorem SoDp.all {fs : List (Fe × Fe)} {ks : List (Option Expr)} {vs : List Expr} (J : SoDp g lv N sc fs ks vs) : ks.all (·.isSome) = true ∧ ks.length = vs.length ∧ fs.length = ks.length := by
  induction J with
  | nil => exact ⟨rfl, rfl, rfl⟩
  | cons h1 h2 r ih => exact ⟨by rw [List.all_cons, ih.1]; rfl, by rw [List.length_cons, List.length_cons, ih.2.1], by rw [List.length_cons, List.length_cons, ih.2.2]⟩
def TPs (g : G) (ρ : Nat → Addr) (n : Nat) (H : Hp) (ps : List (Key × Val)) (xs : List (V × V)) : Prop := ∃ kxs : List (Key × V), xs = kxs.map (fun kv => (kV kv.1, kv.2)) ∧ KR g ρ n H ps kxs ∧ ∀ p ∈ ps, KOk p.1
theorem ps_go {fs : List (Fe × Fe)} {ks : List (Option Expr)} {vs : List Expr} (J : SoDp g lv N sc fs ks vs) (X : Cx) (W : WX) (G : Good g X N sc W lv) (env : Env) (σ : L2.St) : ∀ (ρ : Nat → Addr) (h : Heap) (H : Hp) (Q : List (V × V) → Hp → Prop), Rel g ρ h H → ER g ρ h.length H env σ → QR g (TPs g) W ρ h H σ (ePs fs env h) Q → tPairs (selfP X ks vs) σ H Q := by
  induction J with
  | nil =>
    intro ρ h H Q r er q
    exact QR.ok (T := TPs g) r ⟨[], rfl, by rw [KR], fun _ h => absurd h List.not_mem_nil⟩ q
  | @cons fk fv k v fs ks vs h1 h2 _ ih =>
    intro ρ h H Q r er q
    refine h1 X W G ρ h H env σ _ r er (QR.imp (QR.bind q) fun vx H1 ⟨ρ1, g1, x, s1, r1, t1, _, q1⟩ => ?_)
    have er1 := er.step r s1
    refine h2 X W G ρ1 g1 H1 env σ _ r1 er1 (QR.imp (QR.bind q1) fun vy H2 ⟨ρ2, g2, y, s2, r2, t2, _, q2⟩ => ?_)
    refine ih ρ2 g2 H2 _ r2 (er1.step r1 s2) (QR.imp (QR.bind (T := TPs g) q2) fun ps H3 ⟨ρ3, g3, pv, s3, r3, t3, _, q3⟩ => ?_)
    cases z : keyV x with
    | none => rw [z] at q3; exact q3.elim
    | some kk =>
      rw [z] at q3
      obtain ⟨kxs, rfl, t4, t5⟩ := t3
      cases keyV_ok z t1
      refine QR.ok (T := TPs g) r3 ⟨(kk, vy) :: kxs, rfl, ?_, ?_⟩ q3
      · rw [KR]
        exact ⟨vy, kxs, rfl, t2.step r2 s3, t4⟩
      · intro p hp
        rcases List.mem_cons.mp hp with rfl | hp
        · exact keyV_kok z t1
        · exact t5 p hp
def eDisp (fs : List (Fe × Fe)) : Fe := fun env h => (ePs fs env (h ++ [(false, .dct [])])).bind fun ps h2 => match h2[h.length]? with
  | some (false, .dct []) => if ps.length ≤ 15 then .ok (.ref h.length) (h2.set h.length (false, .dct (merK [] ps))) else .bad
  | _ => .bad
theorem merge_eq {ρ : Nat → Addr} {n : Nat} {H : Hp} {ps : List (Key × Val)} {kxs : List (Key × V)} (t : KR g ρ n H ps kxs) : KR g ρ n H (merK [] ps) (mergeK [] kxs) := KR.merge t (by rw [KR])
theorem so_disp {fs : List (Fe × Fe)} {ks : List (Option Expr)} {vs : List Expr} {pos : Pos} (J : SoDp g lv N sc fs ks vs) (h0 : ks ≠ []) (h15 : ks.length ≤ 15) : SoE g lv N sc (eDisp fs) (.Dict ks vs pos) := by
  intro X W G ρ h H env σ Q r er q
  obtain ⟨a1, a2, a3⟩ := J.all
  refine (pe_disp (pps_self X pos J) a1 a2 h0 h15).se fun p hp => ?_
  have st : Stp ρ (ext ρ h.length p) h (h ++ [(false, .dct [])]) H (upd H p (.dK [])) := Stp.alloc r hp
  have r1 : Rel g (ext ρ h.length p) (h ++ [(false, .dct [])]) (upd H p (.dK [])) := r.alloc hp ⟨⟨Nat.zero_le _, fun _ z => absurd z List.not_mem_nil⟩, [], upd_same, by rw [KR]⟩
  refine ps_go J X W G env σ _ _ _ _ r1 (er.step r st) (QR.imp (QR.bind (T := TPs g) (QR.step st q)) fun ps H2 ⟨ρ2, h2, pv, s2, r2, t2, _, q2⟩ => ?_)
  have hlt : h.length < (h ++ [(false, B.dct [])]).length := by simp
  have hρ : ρ2 h.length = p := by rw [s2.agr _ hlt, ext_new]
  cases z : h2[h.length]? with
  | none => rw [z] at q2; exact q2.elim
  | some c =>
    obtain ⟨b, c⟩ := c
    rw [z] at q2
    cases b with
    | true => cases c <;> exact q2.elim
    | false =>
      cases c with
      | dct l =>
        cases l with
        | cons _ _ => exact q2.elim
        | nil =>
          dsimp only at q2
          by_cases hl : pv.length ≤ 15
          · rw [if_pos hl] at q2
            obtain ⟨kxs, rfl, t4, t5⟩ := t2
            obtain ⟨_, ys, e1, e2⟩ := r2.obj _ _ _ z
            rw [KR] at e2
            subst e2
            rw [hρ] at e1
            refine ⟨e1, kxs, rfl, by rw [← t4.length]; exact hl, ?_⟩
            have sw : Stp ρ2 ρ2 h2 (h2.set h.length (false, .dct (merK [] pv))) H2 (upd H2 (ρ2 h.length) (.dK (mergeK [] kxs))) := Stp.write r2 z
            have hm := merge_eq t4
            have rw2 : Rel g ρ2 (h2.set h.length (false, .dct (merK [] pv))) (upd H2 (ρ2 h.length) (.dK (mergeK [] kxs))) := r2.write z ⟨⟨by
              have := merK_len pv []
              rw [List.length_nil] at this
              exact Nat.le_trans this (Nat.le_trans (show 0 + pv.length ≤ 15 by omega) (by decide)), merK_kok t5 (fun _ h => absurd h List.not_mem_nil)⟩, mergeK [] kxs, upd_same, ?_⟩
            · have := QR.to q2 sw rw2 (x := .ref p) (by
                rw [VR]
                refine ⟨?_, ?_⟩
                · rw [List.length_set]; exact lt_of_get z
                · rw [hρ])
              rw [hρ] at this
              exact this
            · have := hm.step r2 sw
              rw [List.length_set] at this
              exact this
          · rw [if_neg hl] at q2; exact q2.elim
      | lst _ => exact q2.elim
      | ins _ _ => exact q2.elim
end
end MP
end
section
set_option autoImplicit false
set_option Elab.async false
set_option linter.all false
set_option maxRecDepth 100000
set_option maxHeartbeats 2000000
namespace MP
open PySem L2
section
variable {g : G} {lv : Nat} {N : List Str} {sc : Scope}
def minS (x : Str) (xs : List Str) : Str := xs.foldl (fun a y => if PySem.W.dataLt (.str y) (.str a) then y else a) x
theorem minD_strs : ∀ (xs : List Str) (x : Str), PySem.W.minD (.str x) (xs.map PyData.str) = .str (minS x xs)
  | [], x => rfl
  | y :: xs, x => by
    unfold PySem.W.minD minS
    rw [List.map_cons, List.foldl_cons, List.foldl_cons]
    have ih := minD_strs xs (if PySem.W.dataLt (.str y) (.str x) then y else x)
    unfold PySem.W.minD minS at ih
    rw [← ih]
    congr 1
    split <;> rfl
theorem minS_mem : ∀ (xs : List Str) (x : Str), minS x xs ∈ x :: xs
  | [], x => List.mem_cons_self
  | y :: xs, x => by
    unfold minS
    rw [List.foldl_cons]
    have := minS_mem xs (if PySem.W.dataLt (.str y) (.str x) then y else x)
    unfold minS at this
    rcases List.mem_cons.mp this with e | e
    · rw [e]
      split
      · exact List.mem_cons_of_mem _ List.mem_cons_self
      · exact List.mem_cons_self
    · exact List.mem_cons_of_mem _ (List.mem_cons_of_mem _ e)
def minV (v : Val) (h : Heap) : Rs Val := match listOf v h with
  | some vs => (match strsV vs with
    | some (x :: xs) => .ok (.str (minS x xs)) h
    | _ => .bad)
  | none => .bad
theorem reads_strs {h : PySem.Heap} : ∀ {xs : List Str} {its : List Value}, Vals (xs.map V.str) its → ReadsAll h its (xs.map PyData.str) []
  | [], _, .nil => .nil
  | x :: xs, _, .cons r t => by
    obtain ⟨k, rfl⟩ := r
    exact ReadsAll.cons (Reads.str x k) (reads_strs t)
theorem depth_strs : ∀ xs : List Str, PyData.depthAll (xs.map PyData.str) ≤ 1
  | [] => by decide
  | x :: xs => by
    have := depth_strs xs
    rw [List.map_cons, PyData.depthAll]
    refine Nat.max_le.mpr ⟨?_, this⟩
    rw [PyData.depth]
    first | exact Nat.le_refl _ | exact Nat.zero_le _
theorem bf_min : SoF1 g lv (.builtin "min") minV := by
  intro X W N sc G ρ h H σ v x Q r t q
  unfold minV at q
  cases z : listOf v h with
  | none => rw [z] at q; exact q.elim
  | some vs =>
    rw [z] at q
    dsimp only at q
    cases zs : strsV vs with
    | none => rw [zs] at q; exact q.elim
    | some ys =>
      rw [zs] at q
      cases ys with
      | nil => exact q.elim
      | cons y ys =>
        dsimp only at q
        obtain ⟨a, rfl, ea⟩ := listOf_ok z
        obtain ⟨_, rfl⟩ := t.of_ref
        obtain ⟨xs, e1, e2, _⟩ := r.lst ea
        obtain ⟨rfl, _, hsz⟩ := strs_ok e2 zs
        intro pins s σ2 us I rv
        rw [Vals.ref1 rv]
        obtain ⟨its, rv2, hl, _⟩ := I.list (by rw [G.hK]; exact e1)
        have hu := G.room.un
        refine PySem.W.min_list_data (x := .str y) (xs := ys.map PyData.str) (as := []) (I.ok.hd G.calm) hl.isList (reads_strs (xs := y :: ys) rv2) ⟨?_, ?_⟩ ?_ ?_
        · intro a ha b hb
          obtain ⟨a, _, rfl⟩ := List.mem_map.mp (show a ∈ (y :: ys).map PyData.str from ha)
          obtain ⟨b, _, rfl⟩ := List.mem_map.mp (show b ∈ (y :: ys).map PyData.str from hb)
          rfl
        · intro a ha e
          obtain ⟨a, _, rfl⟩ := List.mem_map.mp (show a ∈ (y :: ys).map PyData.str from ha)
          cases e
        · have := depth_strs (y :: ys)
          rw [List.map_cons] at this
          omega
        · intro i v h' tk bs hv hr hk
          rw [minD_strs] at hr
          cases hr with
          | str m tt =>
            refine ⟨.str (minS y ys), H, I.kept hk, ⟨tt, rfl⟩, QR.ok (T := VR g) r (VR.str (hsz _ (minS_mem ys y))) q⟩
end
end MP
end
section
set_option autoImplicit false
set_option Elab.async false
set_option linter.all false
set_option maxRecDepth 100000
set_option maxHeartbeats 3200000
namespace MP
namespace SX
open PySem PySem.Spec PyProof.Rows L2
/-- the text of an entry -/
def tx (e : Int × Value) : Str := match e.2 with
  | .str k _ => k
  | _ => Str.empty
section
variable {P : Program} {w : World} {A : Around} {E : Value → Shared → Prop} {s : Shared} {a : Addr}
def Gd (P : Program) (w : World) (e : Int × Value) : Prop := ∃ k tk, e.2 = .str k tk ∧ e.1 = (PySem.strKind P w).hash k
theorem gd_elems {l : List (Int × Value)} (g : ∀ e ∈ l, Gd P w e) : ElemsOf (PySem.strKind P w) l := fun e he => by
  obtain ⟨k, tk, h1, h2⟩ := g e he
  exact ⟨⟨k, by rw [h1]; exact strKind_is _ _ _ _, h2⟩, by rw [h1] <;> rfl⟩
theorem gd_is {e : Int × Value} (g : Gd P w e) (k : Str) : (PySem.strKind P w).is k e.2 = true ↔ tx e = k := by
  obtain ⟨k0, tk, h1, _⟩ := g
  unfold tx
  rw [h1]
  show ((k0 == k) = true) ↔ k0 = k
  exact beq_iff_eq
/-- a holds the texts of l -/
structure Hs (P : Program) (w : World) (h : PySem.Heap) (a : Addr) (l : List Str) (es : Array (Int × Value)) (ep : Nat) (t : SetTable) : Prop where
  at_ : ∃ o, h.get? a = some o ∧ o.ExactSet ∧ o.data = .set es ep t
  gd : ∀ e ∈ es.toList, Gd P w e
  nd : (es.toList.map tx).Nodup
  mem : ∀ k, k ∈ l ↔ k ∈ es.toList.map tx
  few : es.size < scanBound
  fit : t.fits es.size = true
  ris : Ris t.place.toList
  led : w.params.followText "set-order" = true ∨ t.led = true
def HsN (P : Program) (w : World) (h : PySem.Heap) (a : Addr) (l : List Str) (n : Nat) : Prop := ∃ es ep t, Hs P w h a l es ep t ∧ es.size ≤ n
theorem tail_x {g : Bool → Sem Unit} (hg : ∀ (b : Bool) (s₁ : Shared) (Q' : Unit → Shared → Prop), Q' () s₁ → wpAny (model P w) A (g b) Q' E s₁)
    {o : Obj} {es : Array (Int × Value)} {ep : Nat} {t : SetTable} (ho : s.heap.get? a = some o) (hex : o.ExactSet) (hd : o.data = .set es ep t)
    {es1 : Array (Int × Value)} {t2 : SetTable} {l : List Str} (g1 : ∀ e ∈ es1.toList, Gd P w e) (nd1 : (es1.toList.map tx).Nodup) (m1 : ∀ k, k ∈ l ↔ k ∈ es1.toList.map tx)
    (hb1 : es1.size < scanBound) (hf2 : t2.fits es1.size = true) (hr : Ris t2.place.toList) (hl : w.params.followText "set-order" = true ∨ t2.led = true) {wasDummy : Bool} {R : Option Bool → Shared → Prop}
    (hR : ∀ h', Heap.SameBut a s.heap h' → HsN P w h' a l es1.size → R (some true) { s with heap := h' }) :
    wpAny (model P w) A (do
        storeSet a es1 t2
        if (!wasDummy && t2.tooFull) = true then do
            g (relayAll t2 es1 (SetTable.grown es1.size)).2.2
            storeSet a (relayAll t2 es1 (SetTable.grown es1.size)).1 (relayAll t2 es1 (SetTable.grown es1.size)).2.1
            pure (some true)
          else pure (some true)) R E s := by
  have one := store_at (es' := es1) (t' := t2) ho hd
  have sb := Heap.SameBut.update s.heap a (Obj.putSet es1 t2)
  refine wpAny_bind (wpAny_storeSet_of ho hd ?_ (fits_of_scanBound hb1))
  split
  · have pm := relayAll_perm t2 es1 (SetTable.grown es1.size)
    have f3 := relayAll_fits t2 es1 (SetTable.grown es1.size)
    have r3 := relayAll_ris t2 es1 (SetTable.grown es1.size)
    have l3 := relayAll_led t2 es1 (SetTable.grown es1.size)
    revert pm f3 r3 l3
    rcases relayAll t2 es1 (SetTable.grown es1.size) with ⟨es2, t3, gave⟩
    intro pm f3 r3 l3
    dsimp only at pm f3 r3 l3 ⊢
    have sz : es2.size = es1.size := by rw [← Array.length_toList, pm.length_eq, Array.length_toList]
    have two := store_at (es' := es2) (t' := t3) one rfl
    refine wpAny_bind (hg _ _ _ (wpAny_bind (wpAny_storeSet_of one rfl ?_ (fits_of_scanBound (by rw [sz]; exact hb1)))))
    refine wpAny_pure (hR _ (sb.trans (Heap.SameBut.update _ a _)) ⟨es2, _, t3, ⟨⟨_, two, hex, rfl⟩, fun e he => g1 e (pm.mem_iff.mp he), (pm.map tx).nodup_iff.mpr nd1, fun k => (m1 k).trans (pm.map tx).mem_iff.symm, by rw [sz]; exact hb1, f3, r3, hl.imp id fun z => by rw [l3]; exact z⟩, by rw [sz]; exact Nat.le_refl _⟩)
  · exact wpAny_pure (hR _ sb ⟨es1, _, t2, ⟨⟨_, one, hex, rfl⟩, g1, nd1, m1, hb1, hf2, hr, hl⟩, Nat.le_refl _⟩)
theorem gd_mem {l : List (Int × Value)} (g : ∀ e ∈ l, Gd P w e) (k : Str) : k ∈ l.map tx ↔ ∃ e ∈ l, (PySem.strKind P w).is k e.2 = true := by
  rw [List.mem_map]
  exact ⟨fun ⟨e, he, q⟩ => ⟨e, he, (gd_is (g e he) k).2 q⟩, fun ⟨e, he, q⟩ => ⟨e, he, (gd_is (g e he) k).1 q⟩⟩
theorem add_h {l : List Str} {k : Str} {tk : Tok} {Q : Bool → Shared → Prop} {es : Array (Int × Value)} {ep : Nat} {t : SetTable} (R : Hs P w s.heap a l es ep t) (room : es.size + 1 < scanBound)
    (hQ : ∀ h' b, Heap.SameBut a s.heap h' → HsN P w h' a (k :: l) (es.size + 1) → Q b { s with heap := h' }) :
    wpAny (model P w) A (setAddHashed a (.str k tk) ((PySem.strKind P w).hash k)) Q E s := by
  obtain ⟨⟨o, ho, hex, hd⟩, g, nd, hm, hb, hf, hr, hl⟩ := R
  have hkey : (PySem.strKind P w).is k (.str k tk) = true := strKind_is _ _ _ _
  have hsc : (Value.str k tk).scannable = true := rfl
  have hel : ElemsOf (PySem.strKind P w) es.toList := gd_elems g
  unfold setAddHashed setAddHashedIn
  refine wpAny_holding (wpAny_bind (wpAny_setState_of ho hd hf ?_))
  dsimp only
  rw [byScan_of hsc hb hel]
  simp only [↓reduceIte]
  unfold setAddByScan
  refine wpAny_bind ?_
  refine wpAny_bind (wpAny_rule ?_)
  refine wpAny_bind (wpAny_setScan_of hkey ho hd hf hel ?_)
  cases hfi : List.findIdx? (fun e => (PySem.strKind P w).is k e.2) es.toList with
  | some j =>
    dsimp only
    obtain ⟨hj, pj, _⟩ := List.findIdx?_eq_some_iff_getElem.mp hfi
    have hk : k ∈ es.toList.map tx := (gd_mem (P := P) (w := w) g k).2 ⟨es.toList[j], List.getElem_mem hj, pj⟩
    refine wpAny_pure (wpAny_pure ?_)
    refine hQ s.heap _ (Heap.SameBut.refl a s.heap) ⟨es, ep, t, ⟨⟨o, ho, hex, hd⟩, g, nd, fun i => ?_, hb, hf, hr, hl⟩, Nat.le_succ _⟩
    rw [List.mem_cons, hm i]
    exact ⟨fun z => z.elim (fun e => e ▸ hk) id, .inr⟩
  | none =>
    dsimp only
    have hnk : k ∉ es.toList.map tx := fun z => by
      obtain ⟨e, he, q⟩ := (gd_mem (P := P) (w := w) g k).1 z
      have c := List.findIdx?_eq_none_iff.mp hfi e he
      rw [q] at c
      cases c
    have hgw : ∀ (b : Bool) {s₁ : Shared} {Q' : Unit → Shared → Prop}, Q' () s₁ → wpAny (model P w) A (match b with | true => rule "set.scan.the-table-gave-way" | false => pure ()) Q' E s₁ :=
      fun b s₁ Q' q => by cases b <;> first | exact wpAny_pure q | exact wpAny_rule q
    have pm := layNew_perm t es ((PySem.strKind P w).hash k) (.str k tk)
    have hf1 := layNew_fits t es ((PySem.strKind P w).hash k) (.str k tk)
    have hr1 := layNew_ris t es ((PySem.strKind P w).hash k) (.str k tk) hr
    have hl1 := layNew_led t es ((PySem.strKind P w).hash k) (.str k tk)
    revert pm hf1 hr1 hl1
    generalize layNew t es ((PySem.strKind P w).hash k) (.str k tk) = Z
    obtain ⟨es1, t1, wasDummy, gave⟩ := Z
    intro pm hf1 hr1 hl1
    dsimp only at pm hf1 hr1 hl1 ⊢
    rw [Array.toList_push] at pm
    have pc : es1.toList.Perm (((PySem.strKind P w).hash k, Value.str k tk) :: es.toList) := pm.trans (List.perm_append_singleton _ _)
    have pk : (es1.toList.map tx).Perm (k :: es.toList.map tx) := pc.map tx
    have g1 : ∀ e ∈ es1.toList, Gd P w e := fun e he => by
      rcases List.mem_cons.mp (pc.mem_iff.mp he) with z | z
      · rw [z]; exact ⟨k, tk, rfl, rfl⟩
      · exact g e z
    have nd1 : (es1.toList.map tx).Nodup := pk.nodup_iff.mpr (List.nodup_cons.mpr ⟨hnk, nd⟩)
    have m1 : ∀ i, i ∈ k :: l ↔ i ∈ es1.toList.map tx := fun i => by rw [pk.mem_iff, List.mem_cons, List.mem_cons, hm i]
    have hsz : es1.size = es.size + 1 := by rw [← Array.length_toList, pc.length_eq, List.length_cons, Array.length_toList]
    have hb1 : es1.size < scanBound := by rw [hsz]; exact room
    have hled : w.params.followText "set-order" = true ∨ t1.led = true := hl.imp id fun z => by rw [hl1]; exact z
    have fin : ∀ h', Heap.SameBut a s.heap h' → HsN P w h' a (k :: l) es1.size → Q true { s with heap := h' } := fun h' sb r => hQ h' true sb (hsz ▸ r)
    refine wpAny_bind (hgw _ ?_)
    split
    · refine wpAny_bind ?_
      rw [hashByValue_scannable 8 hsc]
      refine wpAny_pure ?_
      refine tail_x ?_ ho hex hd g1 nd1 m1 hb1 ?_ ?_ ?_ ?_
      · intro b s₁ Q' q; cases b <;> first | exact wpAny_pure q | exact wpAny_rule q
      · first | (split <;> first | exact hf1 | exact SetTable.fits_plain_off hf1) | exact hf1
      · first | (split <;> exact hr1) | exact hr1
      · first | (split <;> exact hled) | exact hled
      · intro h' sb r; dsimp only; exact wpAny_pure (fin h' sb r)
    · refine wpAny_bind (wpAny_pure ?_)
      simp only [↓reduceIte]
      refine tail_x ?_ ho hex hd g1 nd1 m1 hb1 hf1 hr1 hled ?_
      · intro b s₁ Q' q; cases b <;> first | exact wpAny_pure q | exact wpAny_rule q
      · intro h' sb r; dsimp only; exact wpAny_pure (fin h' sb r)
theorem Hs.at {l : List Str} {h h' : PySem.Heap} {es : Array (Int × Value)} {ep : Nat} {t : SetTable} (R : Hs P w h a l es ep t) (k : ∀ o, h.get? a = some o → h'.get? a = some o) : Hs P w h' a l es ep t := by
  obtain ⟨o, ho, r⟩ := R.at_
  exact ⟨⟨o, k o ho, r⟩, R.gd, R.nd, R.mem, R.few, R.fit, R.ris, R.led⟩
end
section
variable {prog : Program} {w : World} {A : Around} {R : Result → Shared → Prop} {I : Addr} {fp wr : List Addr} {G : Array GenState → Array GenState → Prop} {n : Nat} {P : Nat → Value → Prop} {St : Nat → Shared → Prop}
/-- the texts of the rest are put in -/
theorem loop_x (W : WalksS prog w A.in1 I fp wr G n P St) (S : Addr) (hSf : S ∉ fp) (xs : List Str) (hsz : xs.length = n) (hn : n + 1 < scanBound)
    (hval : ∀ i v, P i v → ∃ t, v = .str (xs.getD i Str.empty) t) :
    ∀ (k i : Nat) (s : Shared) (l : List Str), n - i = k → i ≤ n → St i s → (∀ x, x ∈ l ↔ x ∈ xs.take i) → HsN prog w s.heap S l i →
      (∀ s' l', Moved (S :: wr) G s s' → (∀ x, x ∈ l' ↔ x ∈ xs) → HsN prog w s'.heap S l' n → R (.ok (.ret .none)) s') →
      codeAny (model prog w) A (.builtin "set.update.loop" ⟨[.ref S, .ref I], []⟩) R s := by
  have hSw : S ∉ wr := fun h => hSf (W.sub _ h)
  have hsub : ∀ b ∈ wr, b ∈ S :: wr := fun b hb => List.mem_cons_of_mem _ hb
  intro k
  induction k with
  | zero =>
    intro i s l hk hi hst hl hS hR
    have hin : i = n := by omega
    subst hin
    refine codeAny_builtin PyProof.Rows.F.entry_set_update_loop ?_
    rw [Around.under_plainId PyProof.Rows.F.plain_set_update_loop _]
    show wpAny _ A.in1 (pyNext (.ref I) >>= _) _ _ s
    refine wpAny_bind (W.done s _ _ hst fun s' hm => ?_)
    show wpAny _ A.in1 (ret Value.none) _ _ s'
    obtain ⟨es, ep, t, hs, hz⟩ := hS
    refine wpAny_pure (hR s' l (hm.mono hsub) (fun x => by rw [hl x, ← hsz, List.take_length]) ⟨es, ep, t, hs.at fun o e => hm.heap S o hSw e, hz⟩)
  | succ k ih =>
    intro i s l hk hi hst hl hS hR
    have hlt : i < n := by omega
    refine codeAny_builtin PyProof.Rows.F.entry_set_update_loop ?_
    rw [Around.under_plainId PyProof.Rows.F.plain_set_update_loop _]
    show wpAny _ A.in1 (pyNext (.ref I) >>= _) _ _ s
    refine wpAny_bind (W.item i s _ _ hlt hst fun v s' hP hst' hm => ?_)
    obtain ⟨t, rfl⟩ := hval i v hP
    obtain ⟨es, ep, tb, hs, hz⟩ := hS
    have hs' := hs.at fun o e => hm.heap S o hSw e
    show wpAny _ A.in1 (holding [Value.str (xs.getD i Str.empty) t] (setAdd S (.str (xs.getD i Str.empty) t)) >>= _) _ _ s'
    refine wpAny_bind (wpAny_holding ?_)
    unfold setAdd
    refine wpAny_holding ?_
    refine wpAny_bind ((PySem.strKind prog w).pyHash (k := xs.getD i Str.empty) (strKind_is _ _ _ _) ?_)
    refine add_h (s := { s' with toks := s'.toks + 1 }) hs' (by omega) fun h' b hsb hS2 => ?_
    obtain ⟨es2, ep2, t2, hs2, hz2⟩ := hS2
    refine wpAny_pure ⟨plainId_quiet PyProof.Rows.F.plain_set_update_loop _, ih (i + 1) _ (xs.getD i Str.empty :: l) (by omega) hlt (W.frame _ s' _ _ hst' (Nat.le_succ _) fun b hb o e => ?_) (fun x => ?_) ⟨es2, ep2, t2, hs2, by omega⟩ fun s'' l'' hm'' hl'' hS'' => ?_⟩
    · rw [hsb.2 b (fun h : b = S => hSf (by rw [← h]; exact hb))]; exact e
    · have hx : i < xs.length := by omega
      rw [List.take_succ, List.getElem?_eq_getElem hx, List.mem_cons, List.mem_append, hl x, List.getD_eq_getElem?_getD, List.getElem?_eq_getElem hx]
      simp [or_comm]
    · refine hR s'' l'' (Moved.trans W.gtrans ((hm.mono hsub).then_heap (Nat.le_succ _) fun b o hb e => ?_) hm'') hl'' hS''
      rw [hsb.2 b (fun h : b = S => hb (by rw [h]; exact List.mem_cons_self))]; exact e
end
section
variable {prog : Program} {w : World} {A : Around} {E : Value → Shared → Prop} {s : Shared}
/-- the new set, empty -/
def ob0 (w : World) : Obj := { cls := .type "set", dict := none, data := .set #[] 0 (.fresh 0 0 (!w.params.followText "set-order")) }
theorem hs_new {h : PySem.Heap} (ho : h.get? (s.heap.objs.size) = some (ob0 w)) : HsN prog w h s.heap.objs.size [] 0 := by
  refine ⟨#[], 0, _, ⟨⟨_, ho, ⟨rfl, rfl, rfl⟩, rfl⟩, fun e he => absurd he (by simp), by simp, fun k => by simp, by decide, by rfl, List.Pairwise.nil, ?_⟩, Nat.le_refl _⟩
  cases w.params.followText "set-order"
  · exact .inr rfl
  · exact .inl rfl
/-- set(xs), xs a list of texts -/
theorem set_list {l : Addr} {items : Array Value} {xs : List Str} {Q : Value → Shared → Prop}
    (hh : A.handled = none) (hl : s.heap.IsList l items) (hi : PyProof.Rows.StrsAre items.toList xs) (hn : items.size + 1 < scanBound)
    (h : ∀ (h' : PySem.Heap) (tk : Nat) (l' : List Str), (∀ x, x ∈ l' ↔ x ∈ xs) → HsN prog w h' s.heap.objs.size l' items.size →
      (∀ b o, s.heap.get? b = some o → h'.get? b = some o) → Q (.ref s.heap.objs.size) { s with heap := h', toks := tk }) :
    wpAny (model prog w) A (call (.type "set") [.ref l]) Q E s := by
  obtain ⟨c, tl, hmro⟩ := PySem.F.called_set.mro
  have hmade := PySem.F.called_set.made
  have hsub := PySem.F.called_set.sub
  refine wpAny_call (codeAny_of_tree ?_)
  show wpAny _ _ (callAny (.type "set") _) _ _ _
  refine wpAny_pure ⟨Code.quiet_builtin _ (by decide +kernel), codeAny_builtin PySem.F.entry_type_call ?_⟩
  rw [Around.under_plain (weight_type_call_type "set" [.ref l] []) rfl]
  have h1 := PySem.F.called_set.notType
  have h2 := PySem.F.called_set.canCreate
  have hct := PySem.F.typeCall_set_1 (.ref l)
  repeat (any_goals (first | assumption | wp_step))
  refine codeAny_mono (code_set_led1 (.ref l) (E := E) (Q₁ := fun obj s₁ => obj = .ref s.heap.objs.size ∧ s₁ = { s with heap := s.heap.push (ob0 w) }) ⟨rfl, rfl⟩) fun r s₁ hr => ?_
  cases r with
  | error e => exact hr
  | ok fl =>
    cases fl with
    | ret obj =>
      obtain ⟨rfl, rfl⟩ := hr
      have hS : (s.heap.push (ob0 w)).get? s.heap.objs.size = some (ob0 w) := Heap.get?_push_size _ rfl
      have hT : Shared.TypeIs { s with heap := s.heap.push (ob0 w) } (.ref s.heap.objs.size) "set" := ⟨_, hS, rfl⟩
      have hli := PySem.F.called_set.init.lookup
      have hbi := PySem.F.called_set.init.bind (.ref s.heap.objs.size)
      repeat (any_goals (first | assumption | wp_step))
      refine codeAny_mono (codeAny_call_builtin (R := wants (fun r s₂ => r = .none ∧ ∃ h' tk l', s₂ = { s with heap := h', toks := tk } ∧ (∀ x, x ∈ l' ↔ x ∈ xs) ∧ HsN prog w h' s.heap.objs.size l' items.size ∧
          (∀ b o, s.heap.get? b = some o → h'.get? b = some o)) E) PySem.F.called_set.init.plain PySem.F.entry_set_init (check_set_init_1 hT ?_)) fun r₂ s₂ hr₂ => ?_
      · obtain ⟨ol, hol, hcl, nl, hdl⟩ := hl
        obtain ⟨ocls, odict, odata, oslots⟩ := ol
        simp only at hcl hdl
        subst hcl; subst hdl
        have hol' : (s.heap.push (ob0 w)).get? l = some { cls := .type "list", dict := odict, data := .seq items nl, slots := oslots } := Heap.get?_push_of_some _ hol
        have hsls := PySem.F.sub_list_set
        have hslf := PySem.F.sub_list_frozenset
        have hne : (Value.type "list" == Value.type "dict") = false := by decide
        have hl1 : (s.heap.push (ob0 w)).IsList l items := ⟨_, hol', rfl, nl, rfl⟩
        unfold Builtin.«set.__init__» noKeywords Builtin.Frozenset.updateFrom
        generalize hPI : pyIter = PI
        wp_walk
        subst hPI
        refine wpAny_pyIter_list hl1 ?_
        refine wpAny_bind (wpAny_runValue ?_)
        have hlS : l < s.heap.objs.size := Heap.lt_size hol
        have hh3 : A.in1.in1.in1.handled = none := by simp [hh]
        have hneI : l ≠ (s.heap.push (ob0 w)).objs.size := by
          rw [Heap.size_push]; exact Nat.ne_of_lt (Nat.lt_succ_of_lt hlS)
        have hSf : s.heap.objs.size ∉ [(s.heap.push (ob0 w)).objs.size, l] := by
          rw [Heap.size_push]; simp only [List.mem_cons, List.mem_singleton, List.not_mem_nil, or_false, not_or]
          exact ⟨Nat.ne_of_lt (Nat.lt_succ_self _), Nat.ne_of_gt hlS⟩
        have hsz : xs.length = items.size := by rw [← StrsAre.len_eq hi, Array.length_toList]
        have hval : ∀ (i : Nat) (v : Value), items[i]? = some v → ∃ t, v = .str (xs.getD i Str.empty) t := fun i v hv => SS.strs_at hi i v (by rw [Array.getElem?_toList]; exact hv)
        refine loop_x ((Walks.list hh3 _ l hneI items).toS) s.heap.objs.size hSf xs hsz hn hval (items.size - 0) 0 _ [] (by omega) (Nat.zero_le _)
          ⟨⟨_, Heap.get?_push_size _ rfl, rfl, rfl⟩, (hl1.push _)⟩ (fun x => by simp) (hs_new (s := s) (Heap.get?_push_of_some _ hS)) ?hR
        case hR =>
          intro s' l' hm hl' hS'
          obtain ⟨h', g', d', tk', os'⟩ := s'
          have eg : g' = s.gens := hm.gens
          have ed : d' = s.drawn := hm.drawn
          have eo : os' = s.os := hm.os
          subst eg; subst ed; subst eo
          show wpAny _ _ _ _ _ _
          refine wpAny_pure ?_
          show wpAny _ _ (ret Value.none) _ _ _
          refine wpAny_pure ⟨rfl, h', tk', l', rfl, hl', hS', fun b o e => ?_⟩
          have hb := Heap.lt_size e
          have hb1 : b ≠ s.heap.objs.size := Nat.ne_of_lt hb
          have hb2 : b ≠ (s.heap.push (ob0 w)).objs.size := by
            rw [Heap.size_push]; exact Nat.ne_of_lt (Nat.lt_succ_of_lt hb)
          exact hm.heap b o (by simp only [List.mem_cons, List.mem_singleton, List.not_mem_nil, or_false, not_or]; exact ⟨hb1, hb2⟩) (Heap.get?_push_of_some _ (Heap.get?_push_of_some _ e))
      · cases r₂ with
        | error e => exact hr₂
        | ok fl₂ =>
          cases fl₂ with
          | ret r =>
            obtain ⟨rfl, h', tk, l', rfl, hl', hS', hk'⟩ := hr₂
            repeat (any_goals (first | assumption | wp_step))
            exact h _ _ _ hl' hS' hk'
          | _ => exact hr₂.elim
    | _ => exact hr.elim
/-- set(xs), xs a tuple of texts -/
theorem set_tuple {l : Addr} {items : Array Value} {xs : List Str} {Q : Value → Shared → Prop}
    (hh : A.handled = none) (hl : s.heap.IsTuple l items) (hi : PyProof.Rows.StrsAre items.toList xs) (hn : items.size + 1 < scanBound)
    (h : ∀ (h' : PySem.Heap) (tk : Nat) (l' : List Str), (∀ x, x ∈ l' ↔ x ∈ xs) → HsN prog w h' s.heap.objs.size l' items.size →
      (∀ b o, s.heap.get? b = some o → h'.get? b = some o) → Q (.ref s.heap.objs.size) { s with heap := h', toks := tk }) :
    wpAny (model prog w) A (call (.type "set") [.ref l]) Q E s := by
  obtain ⟨c, tl, hmro⟩ := PySem.F.called_set.mro
  have hmade := PySem.F.called_set.made
  have hsub := PySem.F.called_set.sub
  refine wpAny_call (codeAny_of_tree ?_)
  show wpAny _ _ (callAny (.type "set") _) _ _ _
  refine wpAny_pure ⟨Code.quiet_builtin _ (by decide +kernel), codeAny_builtin PySem.F.entry_type_call ?_⟩
  rw [Around.under_plain (weight_type_call_type "set" [.ref l] []) rfl]
  have h1 := PySem.F.called_set.notType
  have h2 := PySem.F.called_set.canCreate
  have hct := PySem.F.typeCall_set_1 (.ref l)
  repeat (any_goals (first | assumption | wp_step))
  refine codeAny_mono (code_set_led1 (.ref l) (E := E) (Q₁ := fun obj s₁ => obj = .ref s.heap.objs.size ∧ s₁ = { s with heap := s.heap.push (ob0 w) }) ⟨rfl, rfl⟩) fun r s₁ hr => ?_
  cases r with
  | error e => exact hr
  | ok fl =>
    cases fl with
    | ret obj =>
      obtain ⟨rfl, rfl⟩ := hr
      have hS : (s.heap.push (ob0 w)).get? s.heap.objs.size = some (ob0 w) := Heap.get?_push_size _ rfl
      have hT : Shared.TypeIs { s with heap := s.heap.push (ob0 w) } (.ref s.heap.objs.size) "set" := ⟨_, hS, rfl⟩
      have hli := PySem.F.called_set.init.lookup
      have hbi := PySem.F.called_set.init.bind (.ref s.heap.objs.size)
      repeat (any_goals (first | assumption | wp_step))
      refine codeAny_mono (codeAny_call_builtin (R := wants (fun r s₂ => r = .none ∧ ∃ h' tk l', s₂ = { s with heap := h', toks := tk } ∧ (∀ x, x ∈ l' ↔ x ∈ xs) ∧ HsN prog w h' s.heap.objs.size l' items.size ∧
          (∀ b o, s.heap.get? b = some o → h'.get? b = some o)) E) PySem.F.called_set.init.plain PySem.F.entry_set_init (check_set_init_1 hT ?_)) fun r₂ s₂ hr₂ => ?_
      · obtain ⟨ol, hol, hcl, nl, hdl⟩ := hl
        obtain ⟨ocls, odict, odata, oslots⟩ := ol
        simp only at hcl hdl
        subst hcl; subst hdl
        have hol' : (s.heap.push (ob0 w)).get? l = some { cls := .type "tuple", dict := odict, data := .seq items nl, slots := oslots } := Heap.get?_push_of_some _ hol
        have hsls := PySem.F.sub_tuple_set
        have hslf := PySem.F.sub_tuple_frozenset
        have hne : (Value.type "tuple" == Value.type "dict") = false := by decide
        have hl1 : (s.heap.push (ob0 w)).IsTuple l items := ⟨_, hol', rfl, nl, rfl⟩
        unfold Builtin.«set.__init__» noKeywords Builtin.Frozenset.updateFrom
        generalize hPI : pyIter = PI
        wp_walk
        subst hPI
        refine wpAny_pyIter_tuple hl1 ?_
        refine wpAny_bind (wpAny_runValue ?_)
        have hlS : l < s.heap.objs.size := Heap.lt_size hol
        have hh3 : A.in1.in1.in1.handled = none := by simp [hh]
        have hneI : l ≠ (s.heap.push (ob0 w)).objs.size := by
          rw [Heap.size_push]; exact Nat.ne_of_lt (Nat.lt_succ_of_lt hlS)
        have hSf : s.heap.objs.size ∉ [(s.heap.push (ob0 w)).objs.size, l] := by
          rw [Heap.size_push]; simp only [List.mem_cons, List.mem_singleton, List.not_mem_nil, or_false, not_or]
          exact ⟨Nat.ne_of_lt (Nat.lt_succ_self _), Nat.ne_of_gt hlS⟩
        have hsz : xs.length = items.size := by rw [← StrsAre.len_eq hi, Array.length_toList]
        have hval : ∀ (i : Nat) (v : Value), items[i]? = some v → ∃ t, v = .str (xs.getD i Str.empty) t := fun i v hv => SS.strs_at hi i v (by rw [Array.getElem?_toList]; exact hv)
        refine loop_x ((Walks.tuple hh3 _ l hneI items).toS) s.heap.objs.size hSf xs hsz hn hval (items.size - 0) 0 _ [] (by omega) (Nat.zero_le _)
          ⟨⟨_, Heap.get?_push_size _ rfl, rfl, rfl⟩, (hl1.push _)⟩ (fun x => by simp) (hs_new (s := s) (Heap.get?_push_of_some _ hS)) ?hR
        case hR =>
          intro s' l' hm hl' hS'
          obtain ⟨h', g', d', tk', os'⟩ := s'
          have eg : g' = s.gens := hm.gens
          have ed : d' = s.drawn := hm.drawn
          have eo : os' = s.os := hm.os
          subst eg; subst ed; subst eo
          show wpAny _ _ _ _ _ _
          refine wpAny_pure ?_
          show wpAny _ _ (ret Value.none) _ _ _
          refine wpAny_pure ⟨rfl, h', tk', l', rfl, hl', hS', fun b o e => ?_⟩
          have hb := Heap.lt_size e
          have hb1 : b ≠ s.heap.objs.size := Nat.ne_of_lt hb
          have hb2 : b ≠ (s.heap.push (ob0 w)).objs.size := by
            rw [Heap.size_push]; exact Nat.ne_of_lt (Nat.lt_succ_of_lt hb)
          exact hm.heap b o (by simp only [List.mem_cons, List.mem_singleton, List.not_mem_nil, or_false, not_or]; exact ⟨hb1, hb2⟩) (Heap.get?_push_of_some _ (Heap.get?_push_of_some _ e))
      · cases r₂ with
        | error e => exact hr₂
        | ok fl₂ =>
          cases fl₂ with
          | ret r =>
            obtain ⟨rfl, h', tk, l', rfl, hl', hS', hk'⟩ := hr₂
            repeat (any_goals (first | assumption | wp_step))
            exact h _ _ _ hl' hS' hk'
          | _ => exact hr₂.elim
    | _ => exact hr.elim
end
end SX
end MP
end
section
set_option autoImplicit false
set_option Elab.async false
set_option linter.all false
set_option maxRecDepth 100000
set_option maxHeartbeats 3200000
namespace MP
namespace SX
open PySem PySem.Spec PyProof.Rows L2
section
variable {P : Program} {w : World} {A : Around} {E : Value → Shared → Prop} {s : Shared} {a : Addr}
theorem strs_of : ∀ {l : List (Int × Value)}, (∀ e ∈ l, Gd P w e) → StrsAre (l.map (·.2)) (l.map tx)
  | [], _ => .nil
  | e :: l, g => by
    obtain ⟨k, tk, h1, _⟩ := g e List.mem_cons_self
    rw [List.map_cons, List.map_cons, h1, show tx e = k by unfold tx; rw [h1]]
    exact .cons k tk (strs_of fun x hx => g x (List.mem_cons_of_mem _ hx))
theorem strs_perm : ∀ {vs us : List Value} {xs : List Str}, vs.Perm us → StrsAre us xs → ∃ ys, StrsAre vs ys ∧ ys.Perm xs := by
  intro vs us xs p
  induction p generalizing xs with
  | nil => intro h; exact ⟨xs, h, .refl _⟩
  | cons x _ ih =>
    intro h
    cases h with
    | cons n t hr =>
      obtain ⟨ys, h1, h2⟩ := ih hr
      exact ⟨n :: ys, .cons n t h1, .cons _ h2⟩
  | swap x y l =>
    intro h
    cases h with
    | cons n t hr =>
      cases hr with
      | cons m u hr => exact ⟨m :: n :: _, .cons m u (.cons n t hr), .swap _ _ _⟩
  | trans _ _ ih1 ih2 =>
    intro h
    obtain ⟨ys, h1, h2⟩ := ih2 h
    obtain ⟨zs, h3, h4⟩ := ih1 h1
    exact ⟨zs, h3, h4.trans h2⟩
/-- sorted(a), a a set of texts -/
theorem sorted_x {l : List Str} {es : Array (Int × Value)} {ep : Nat} {t : SetTable} {Q : Value → Shared → Prop} (R : Hs P w s.heap a l es ep t) (hh : A.handled = none) (h64 : es.size < 64)
    (hQ : ∀ s' p (out : Array Value) (c : Nat) (ys : List Str), (∀ b o, s.heap.get? b = some o → s'.heap.get? b = some o) → s'.gens = s.gens → s'.os = s.os → s.heap.objs.size ≤ p →
      s'.heap.get? p = some (seqObj "list" out c) → StrsAre out.toList ys → ys.Perm (es.toList.map tx) → sortedS ys = true → Q (.ref p) s') :
    wpAny (model P w) A (call (.builtin "sorted") [.ref a]) Q E s := by
  obtain ⟨o, ho, hex, hd⟩ := R.at_
  refine Calls.call_function_entry kind_sorted plain_sorted entry_sorted (args_sorted1 _) ?_
  unfold Builtin.«sorted»
  refine wpAny_bind (m := checkCount "sorted" 1 1 _) (wpAny_pure ?_)
  refine wpAny_bind (collect_set (A := A.in1) hh ⟨o, ho, hex.1, hd⟩ R.fit R.few R.ris R.led fun s1 vs k1 hz g1 o1 pm => ?_)
  have hvl : vs.length = es.size := by rw [pm.length_eq, List.length_map, Array.length_toList]
  obtain ⟨xs, hS, px⟩ := strs_perm pm (strs_of R.gd)
  refine wpAny_bind (wpAny_newList ?_ (by rw [hvl, sizeLine_eq]; omega))
  have hoL : (s1.heap.push (seqObj "list" vs.toArray 0)).get? s1.heap.objs.size = some (seqObj "list" vs.toArray 0) := Heap.get?_push_size _ rfl
  refine wpAny_bind (wpAny_holding (wpAny_call_entry slot_list_sort ⟨_, hoL, rfl⟩ entry_list_sort
    (list_sort_treeK strKind_oneLt hoL hS.keysOf (fun v₁ v₂ rest e => keyKind_strs (by rw [← e]; exact hS)) (by rw [hvl]; exact h64) fun st' hp hs => ⟨_, rfl, ?_⟩) (args_list_sort _)))
  obtain ⟨ys, y1, y2, y3⟩ := sorted_out_str hS hp hs
  obtain ⟨c, hc⟩ := sortedHeap_at (vs := vs) (out := (arrOf st').map (·.2)) hoL
  refine wpAny_pure ⟨_, rfl, hQ _ s1.heap.objs.size ((arrOf st').map (·.2)) c ys (fun b u e => ?_) g1 o1 hz hc y1 (y2.trans px) y3⟩
  have q := k1 b u e
  have hlt := Heap.lt_size q
  show (sortedHeap (s1.heap.push (seqObj "list" vs.toArray 0)) s1.heap.objs.size vs _).get? b = some u
  rw [sortedHeap_old (Nat.ne_of_lt hlt) (by rw [size_push']; exact Nat.lt_succ_of_lt hlt)]
  exact Heap.get?_push_of_some _ q
end
end SX
end MP
end
section
set_option autoImplicit false
set_option Elab.async false
set_option linter.all false
set_option maxRecDepth 100000
set_option maxHeartbeats 3200000
namespace MP
namespace SX
open PySem PySem.Spec PyProof.Rows L2
/-- a row of texts, read as a set -/
def RowS (K : PySem.W.Frag) (H : Hp) (x : V) (xs : List Str) : Prop := ∃ l, x = .ref l ∧ (SqL K H l (xs.map V.str) ∨ SqT K H l (xs.map V.str)) ∧ xs.length < 63
def tSortSet (K : PySem.W.Frag) (ta : TE) : TE := fun σ H Q => ta σ H fun x H1 => ∃ xs, RowS K H1 x xs ∧ ∀ (ys : List Str) (p : Addr), sortedS ys = true → ys.Nodup → (∀ k, k ∈ ys ↔ k ∈ xs) → H1 p = none → Q (.ref p) (upd H1 p (.lst (ys.map V.str)))
def tLenSet (K : PySem.W.Frag) (ta : TE) : TE := fun σ H Q => ta σ H fun x H1 => ∃ xs, RowS K H1 x xs ∧ ∀ (ys : List Str), ys.Nodup → (∀ k, k ∈ ys ↔ k ∈ xs) → Q (.int ys.length) H1
section
variable {X : Cx}
/-- set(e), then f of it -/
theorem set_row {pins : List (Addr × Obj)} {σ : L2.St} {H1 : Hp} {s1 : Shared} {x : V} {v : Value} {xs : List Str} {Q : Value → Shared → Prop} {E : Value → Shared → Prop} (hc : X.calm = true) (I1 : Inv X pins σ H1 s1) (r1 : RelV x v) (hx : RowS X.K H1 x xs)
    (h : ∀ (h' : PySem.Heap) (tk : Nat) (l' : List Str), (∀ k, k ∈ l' ↔ k ∈ xs) → HsN X.prog X.w h' s1.heap.objs.size l' xs.length → (∀ b o, s1.heap.get? b = some o → h'.get? b = some o) → Q (.ref s1.heap.objs.size) { s1 with heap := h', toks := tk }) :
    wpAny (model X.prog X.w) X.A (call (.type "set") [v]) Q E s1 := by
  obtain ⟨l, rfl, hq, hn⟩ := hx
  cases r1
  rcases hq with hq | hq
  · obtain ⟨its, r, pl, hz⟩ := I1.list hq
    have hl : its.toArray.size = xs.length := by rw [List.size_toArray, ← r.length, List.length_map]
    refine set_list (I1.ok.hd hc) pl.isList (by simpa using strsAre_of r) (by rw [hl]; exact Nat.lt_of_lt_of_le (Nat.succ_lt_succ hn) (by decide)) fun h' tk l' a b c => h h' tk l' a (hl ▸ b) c
  · obtain ⟨its, r, pl, hz⟩ := I1.tuple hq
    have hl : its.toArray.size = xs.length := by rw [List.size_toArray, ← r.length, List.length_map]
    refine set_tuple (I1.ok.hd hc) pl (by simpa using strsAre_of r) (by rw [hl]; exact Nat.lt_of_lt_of_le (Nat.succ_lt_succ hn) (by decide)) fun h' tk l' a b c => h h' tk l' a (hl ▸ b) c
theorem pe_lenSet {a : Expr} {ta : TE} {p p2 q pos : Pos} (hc : X.calm = true) (hg : Gl X "len") (hm : X.mg "len" = none) (hg2 : Gl X "set") (hm2 : X.mg "set" = none) (ha : PE X a ta)
    (na : starEach [a] X.env = (false, eval a X.env) :: starEach [] X.env) : PE X (.Call (.Name "len" p) [.Call (.Name "set" p2) [a] [] q] [] pos) (tLenSet X.K ta) := by
  refine ⟨fun pins s σ H Q I h => ?_⟩
  refine Call_ (ld_blt I hg hm boot_len ?_)
  refine PyProof.Rows.callWith_builtin1 (PyProof.Rows.args_cons ?_ rfl) rfl rfl
  refine Call_ (ld_blt I hg2 hm2 boot_set ?_)
  refine PyProof.Rows.callWith_type1 (PyProof.Rows.args_cons (thn (ha.run pins s σ H _ I h) fun v s1 ⟨x, H1, I1, r1, q1⟩ => PyProof.Rows.args_nil ?_) na) na rfl
  obtain ⟨xs, hx, q1⟩ := q1
  refine set_row hc I1 r1 hx fun h' tk l' hl' ⟨es, ep, t, R, hz⟩ hk => ?_
  refine PyProof.Rows.args_nil ?_
  have I2 : Inv X pins σ H1 { s1 with heap := h', toks := tk } := I1.kept hk
  obtain ⟨o, ho, hex, hd⟩ := R.at_
  have e : es.size = (es.toList.map tx).length := by rw [List.length_map, Array.length_toList]
  have hn := hx.choose_spec.2.2
  refine call_len_set ho hex hd R.fit (by omega) ⟨.int es.size, H1, I2.tok _, ⟨_, rfl⟩, ?_⟩
  rw [e]
  exact q1 _ R.nd fun k => by rw [← R.mem k, hl' k]
theorem pe_sortSet {a : Expr} {ta : TE} {p p2 q pos : Pos} (hc : X.calm = true) (hg : Gl X "sorted") (hm : X.mg "sorted" = none) (hg2 : Gl X "set") (hm2 : X.mg "set" = none) (ha : PE X a ta)
    (na : starEach [a] X.env = (false, eval a X.env) :: starEach [] X.env) : PE X (.Call (.Name "sorted" p) [.Call (.Name "set" p2) [a] [] q] [] pos) (tSortSet X.K ta) := by
  refine ⟨fun pins s σ H Q I h => ?_⟩
  refine Call_ (ld_blt I hg hm (by first | rfl | decide +kernel) ?_)
  refine PyProof.Rows.callWith_builtin1 (PyProof.Rows.args_cons ?_ rfl) rfl rfl
  refine Call_ (ld_blt I hg2 hm2 boot_set ?_)
  refine PyProof.Rows.callWith_type1 (PyProof.Rows.args_cons (thn (ha.run pins s σ H _ I h) fun v s1 ⟨x, H1, I1, r1, q1⟩ => PyProof.Rows.args_nil ?_) na) na rfl
  obtain ⟨xs, hx, q1⟩ := q1
  refine set_row hc I1 r1 hx fun h' tk l' hl' ⟨es, ep, t, R, hz⟩ hk => ?_
  refine PyProof.Rows.args_nil ?_
  have I2 : Inv X pins σ H1 { s1 with heap := h', toks := tk } := I1.kept hk
  have hn := hx.choose_spec.2.2
  refine sorted_x R (I2.ok.hd hc) (by omega) fun s' p out c ys k g o hp hgt hi pm hs => ?_
  have hnone : H1 p = none := I2.hok.fresh hp
  have hlen : (ys.map V.str).length ≤ sizeLine := by rw [List.length_map, pm.length_eq, List.length_map, Array.length_toList, sizeLine_eq]; omega
  have J : Inv X pins σ (upd H1 p (.lst (ys.map V.str))) { ({ s1 with heap := h', toks := tk } : Shared) with heap := s'.heap, gens := s'.gens, drawn := s'.drawn, toks := s'.toks } :=
    I2.call (ch := []) (Un.laid k hp hnone) (I2.hok.laid k hp ⟨hlen, out.toList, c, vals_of_strs hi, hgt⟩) (by rw [g]; exact I2.bare) (fun _ z => nomatch z)
  have e : s' = { s1 with heap := s'.heap, gens := s'.gens, drawn := s'.drawn, toks := s'.toks } := by
    cases s'
    cases s1
    cases o
    rfl
  rw [e]
  exact ⟨.ref p, _, J, rfl, q1 ys p hs (pm.nodup_iff.mpr R.nd) (fun k => by rw [pm.mem_iff, ← R.mem k, hl' k]) hnone⟩
end
end SX
end MP
end
section
set_option autoImplicit false
set_option Elab.async false
set_option linter.all false
set_option maxRecDepth 100000
set_option maxHeartbeats 3200000
namespace MP
open PySem L2
section
variable {g : G} {lv : Nat} {N : List Str} {sc : Scope}
/-- each text once -/
def ddS : List Str → List Str
  | [] => []
  | x :: xs => if x ∈ xs then ddS xs else x :: ddS xs
theorem ddS_mem (k : Str) : ∀ xs : List Str, k ∈ ddS xs ↔ k ∈ xs
  | [] => Iff.rfl
  | x :: xs => by
    unfold ddS
    split
    · rw [ddS_mem k xs, List.mem_cons]
      exact ⟨.inr, fun z => z.elim (fun e => e ▸ ‹_›) id⟩
    · rw [List.mem_cons, List.mem_cons, ddS_mem k xs]
theorem ddS_nodup : ∀ xs : List Str, (ddS xs).Nodup
  | [] => List.nodup_nil
  | x :: xs => by
    unfold ddS
    split
    · exact ddS_nodup xs
    · exact List.nodup_cons.mpr ⟨fun z => ‹¬ _› ((ddS_mem x xs).mp z), ddS_nodup xs⟩
def rowS (v : Val) (h : Heap) : Option (List Str) := (rowOf v h).bind strsV
def lenSetV (v : Val) (h : Heap) : Rs Val := match rowS v h with
  | some xs => if xs.length < 63 then .ok (.int (ddS xs).length) h else .bad
  | none => .bad
def sortSetV (v : Val) (h : Heap) : Rs Val := match rowS v h with
  | some xs => if xs.length < 63 then al h (.lst ((sortS (ddS xs)).map Val.str)) else .bad
  | none => .bad
theorem rowS_ok {ρ : Nat → Addr} {h : Heap} {H : Hp} (r : Rel g ρ h H) {v : Val} {x : L2.V} {xs : List Str} (t : VR g ρ h.length H v x) (e : rowS v h = some xs) (hl : xs.length < 63) : SX.RowS g.K H x xs ∧ ∀ z ∈ xs, z.length ≤ sizeLine := by
  unfold rowS at e
  cases z : rowOf v h with
  | none => rw [z] at e; cases e
  | some vs =>
    rw [z] at e
    obtain ⟨p, ys, rfl, e1, e2⟩ := rowOf_ok r t z
    obtain ⟨rfl, _, hs⟩ := strs_ok e2 e
    exact ⟨⟨p, rfl, e1.symm, hl⟩, hs⟩
theorem dd_perm {xs ys : List Str} (nd : ys.Nodup) (h : ∀ k, k ∈ ys ↔ k ∈ xs) : ys.Perm (ddS xs) := (List.perm_ext_iff_of_nodup nd (ddS_nodup xs)).mpr fun k => by rw [h k, ddS_mem k xs]
theorem so_lenSet {f : Fe} {e : Expr} {p p2 q2 pos : Pos} (hx : sc.names.lookup ("len" : Str) = some .globalImplicit) (hm : g.mg "len" = none) (hx2 : sc.names.lookup ("set" : Str) = some .globalImplicit) (hm2 : g.mg "set" = none) (hs : isSt e = false) (he : SoE g lv N sc f e) :
    SoE g lv N sc (fun env h => (f env h).bind lenSetV) (.Call (.Name "len" p) [.Call (.Name "set" p2) [e] [] q2] [] pos) := by
  intro X W G ρ h H env σ Q r er q
  refine (SX.pe_lenSet G.calm (G.gl hx) (by rw [G.hmg]; exact hm) (G.gl hx2) (by rw [G.hmg]; exact hm2) (self_e X e) (starEach_plain hs [] X.env)).se ?_
  refine he X W G ρ h H env σ _ r er (QR.imp (QR.bind q) fun x H1 ⟨ρ1, h1, v, s1, r1, t1, _, q1⟩ => ?_)
  unfold lenSetV at q1
  cases z : rowS v h1 with
  | none => rw [z] at q1; exact q1.elim
  | some xs =>
    rw [z] at q1
    dsimp only at q1
    by_cases hl : xs.length < 63
    · rw [if_pos hl] at q1
      obtain ⟨R, _⟩ := rowS_ok r1 t1 z hl
      rw [← G.hK] at R
      refine ⟨xs, R, fun ys nd hy => ?_⟩
      rw [(dd_perm nd hy).length_eq]
      exact QR.ok (T := VR g) r1 VR.int q1
    · rw [if_neg hl] at q1; exact q1.elim
theorem so_sortSet {f : Fe} {e : Expr} {p p2 q2 pos : Pos} (hx : sc.names.lookup ("sorted" : Str) = some .globalImplicit) (hm : g.mg "sorted" = none) (hx2 : sc.names.lookup ("set" : Str) = some .globalImplicit) (hm2 : g.mg "set" = none) (hs : isSt e = false) (he : SoE g lv N sc f e) :
    SoE g lv N sc (fun env h => (f env h).bind sortSetV) (.Call (.Name "sorted" p) [.Call (.Name "set" p2) [e] [] q2] [] pos) := by
  intro X W G ρ h H env σ Q r er q
  refine (SX.pe_sortSet G.calm (G.gl hx) (by rw [G.hmg]; exact hm) (G.gl hx2) (by rw [G.hmg]; exact hm2) (self_e X e) (starEach_plain hs [] X.env)).se ?_
  refine he X W G ρ h H env σ _ r er (QR.imp (QR.bind q) fun x H1 ⟨ρ1, h1, v, s1, r1, t1, _, q1⟩ => ?_)
  unfold sortSetV at q1
  cases z : rowS v h1 with
  | none => rw [z] at q1; exact q1.elim
  | some xs =>
    rw [z] at q1
    dsimp only at q1
    by_cases hl : xs.length < 63
    · rw [if_pos hl] at q1
      obtain ⟨R, hz⟩ := rowS_ok r1 t1 z hl
      rw [← G.hK] at R
      refine ⟨xs, R, fun ys p hsr nd hy hp => ?_⟩
      have pm := dd_perm nd hy
      have e1 := sorted_is pm hsr
      subst e1
      refine new_lst r1 ?_ (VRs.strs fun w hw => hz w ((hy w).mp hw)) q1 p hp
      rw [List.length_map, pm.length_eq]
      have h1 : (ddS xs).length ≤ xs.length := by
        clear hy nd pm hsr R hz z hl q1
        induction xs with
        | nil => exact Nat.le_refl _
        | cons x xs ih =>
          unfold ddS
          split
          · exact Nat.le_succ_of_le ih
          · exact Nat.succ_le_succ ih
      exact small64 (by omega)
    · rw [if_neg hl] at q1; exact q1.elim
end
end MP
end
section
set_option autoImplicit false
set_option Elab.async false
set_option linter.all false
set_option maxRecDepth 100000
set_option maxHeartbeats 3200000
namespace MP
open PySem L2
section
variable {g : G} {lv : Nat} {N : List Str} {sc : Scope}
def maxL (x : Int) (xs : List Int) : Int := xs.foldl (fun a y => if a < y then y else a) x
theorem maxL_spec : ∀ (xs : List Int) (x : Int), maxL x xs ∈ x :: xs ∧ ∀ y ∈ x :: xs, y ≤ maxL x xs
  | [], x => ⟨List.mem_cons_self, fun y hy => by rw [List.mem_singleton] at hy; subst hy; exact Int.le_refl _⟩
  | z :: xs, x => by
    have ih := maxL_spec xs (if x < z then z else x)
    have e : maxL x (z :: xs) = maxL (if x < z then z else x) xs := rfl
    rw [e]
    by_cases h : x < z
    · rw [if_pos h] at ih ⊢
      refine ⟨List.mem_cons_of_mem _ ih.1, fun y hy => ?_⟩
      rcases List.mem_cons.mp hy with rfl | hy
      · have := ih.2 z List.mem_cons_self; omega
      · exact ih.2 y hy
    · rw [if_neg h] at ih ⊢
      refine ⟨?_, fun y hy => ?_⟩
      · rcases List.mem_cons.mp ih.1 with q | q
        · rw [q]; exact List.mem_cons_self
        · exact List.mem_cons_of_mem _ (List.mem_cons_of_mem _ q)
      · rcases List.mem_cons.mp hy with rfl | hy
        · exact ih.2 _ List.mem_cons_self
        · rcases List.mem_cons.mp hy with rfl | hy
          · have := ih.2 x List.mem_cons_self; omega
          · exact ih.2 y (List.mem_cons_of_mem _ hy)
def maxV (v : Val) (h : Heap) : Rs Val := match listOf v h with
  | some vs => (match intsV vs with
    | some (x :: xs) => .ok (.int (maxL x xs)) h
    | _ => .bad)
  | none => .bad
theorem bf_max : SoF1 g lv (.builtin "max") maxV := by
  intro X W N sc G ρ h H σ v x Q r t q
  unfold maxV at q
  cases z : listOf v h with
  | none => rw [z] at q; exact q.elim
  | some vs =>
    rw [z] at q
    dsimp only at q
    cases zs : intsV vs with
    | none => rw [zs] at q; exact q.elim
    | some ys =>
      rw [zs] at q
      cases ys with
      | nil => exact q.elim
      | cons y ys =>
        dsimp only at q
        obtain ⟨a, rfl, ea⟩ := listOf_ok z
        obtain ⟨_, rfl⟩ := t.of_ref
        obtain ⟨xs, e1, e2, _⟩ := r.lst ea
        have e3 := ints_ok e2 zs
        have e4 : xs = (y :: ys).map V.int := e3
        subst e4
        refine (cr_max G.calm).se ⟨_, y :: ys, rfl, by rw [G.hK]; exact e1, Nat.zero_lt_succ _, fun m h1 h2 => ?_⟩
        have sp := maxL_spec ys y
        have : m = maxL y ys := by
          have a := h2 _ sp.1
          have b := sp.2 m h1
          omega
        subst this
        exact QR.ok (T := VR g) r VR.int q
end
end MP
end
section
set_option autoImplicit false
set_option Elab.async false
set_option linter.all false
set_option maxRecDepth 100000
set_option maxHeartbeats 3200000
namespace MP
namespace DX
open PySem PySem.Spec PyProof.Rows L2
section
variable {prog : Program} {w : World} {K : Type} [DecidableEq K] {knd : KeyKind prog w K} {A : Around} {E : Value → Shared → Prop} {s : Shared}
theorem put_pairs {d : Addr} {kvs : List (K × Value)} {k : K} {key v : Value} {Q : Unit → Shared → Prop} (hkey : knd.is k key = true) (hm : s.heap.DictOf knd d kvs)
    (hQ : ∀ h', h'.DictOf knd d (stored kvs k v) → Heap.SameBut d s.heap h' → Q () { s with heap := h' })
    (hsz : kvs.length ≤ sizeLine) :
    wpAny (model prog w) A (dictPut d (knd.hash k) key v) Q E s := by
  obtain ⟨o, es, ep, ho, hc, hd, hk, hp, hn⟩ := hm
  have hes : es.size ≤ sizeLine := by
    have e1 := hp.length
    have e2 : es.toList.length = es.size := by simp
    omega
  unfold dictPut
  refine wpAny_bind (wpAny_dictFind_of hkey ho hd hk ?_)
  have hidx : (es.findIdx? fun e => knd.is k e.key) = kvs.findIdx? fun kv => decide (kv.1 = k) := by
    rw [← hp.findIdx k]; obtain ⟨l⟩ := es; simp
  cases hi : es.findIdx? fun e => knd.is k e.key with
  | some i =>
    have ha : (kvs.any fun kv => decide (kv.1 = k)) = true := any_of_findIdx_some (hidx ▸ hi)
    refine wpAny_updateDict ho hd (hQ _ ⟨_, _, ep, Heap.get?_update_self _ ho (Obj.isFreed_of_dict (Obj.data_mapDict hd _)), hc.mapDict _, Obj.data_mapDict hd _, hk.modify _ _, ?_, ?_⟩ (Heap.SameBut.update ..))
    · rw [stored, if_pos ha]
      have hl : (es.toList.findIdx? fun e => knd.is k e.key) = some i := by rw [← hi]; obtain ⟨l⟩ := es; simp
      have := hp.modify hn hl v
      obtain ⟨l⟩ := es
      simpa using this
    · rw [stored, if_pos ha, keys_map_store]; exact hn
  | none =>
    have hnot : k ∉ kvs.map (·.1) := not_mem_of_findIdx_none (hidx ▸ hi)
    have hany : ¬ (kvs.any fun kv => decide (kv.1 = k)) = true := by
      rw [List.any_eq_true]; rintro ⟨kv, hkv, he⟩
      exact hnot (List.mem_map.mpr ⟨kv, hkv, of_decide_eq_true he⟩)
    refine wpAny_updateDictKeys (hz := hes) ho hd (hQ _ ⟨_, _, ep + 1, Heap.get?_update_self _ ho (Obj.isFreed_of_dict (Obj.data_mapDictKeys hd _)), hc.mapDictKeys _, Obj.data_mapDictKeys hd _, hk.push hkey _, ?_, ?_⟩ (Heap.SameBut.update ..))
    · rw [stored, if_neg hany]
      have := hp.append hkey (knd.hash k) v
      obtain ⟨l⟩ := es
      simpa using this
    · rw [stored, if_neg hany, List.map_append, List.nodup_append]
      refine ⟨hn, by simp, ?_⟩
      intro a ha b hb
      simp only [List.map_cons, List.map_nil, List.mem_singleton] at hb
      subst hb
      exact fun e => hnot (e ▸ ha)
theorem merge_pairs {d o : Addr} {kvs more : List (K × Value)} {Q : Unit → Shared → Prop} (hdo : d ≠ o) (hoS : (o == sysModules) = false) (hd : s.heap.DictOf knd d kvs) (ho : s.heap.DictOf knd o more) (hnr : ∀ k v, knd.is k v = true → ∀ a, v ≠ .ref a)
    (hQ : ∀ h', h'.DictOf knd d (merged kvs more) → Heap.SameBut d s.heap h' → Q () { s with heap := h' })
    (hsz : kvs.length + more.length ≤ sizeLine) :
    wpAny (model prog w) A (mergeMapping d (.ref o) false) Q E s := by
  obtain ⟨od, esd, epd, hod, hcd, hdd, hkd, hpd, hnd⟩ := id hd
  obtain ⟨oo, eso, epo, hoo, hco, hdo', hko, hpo, hno⟩ := id ho
  unfold mergeMapping
  refine wpAny_bind (wpAny_isInstance ho.typeIs isSubtype_dict_dict ?_)
  simp only [if_true]
  refine wpAny_bind (wpAny_specialOf ho.typeIs F.slot_dict_iter.lookup ?_)
  simp only [beq_self_eq_true]
  refine wpAny_bind (wpAny_pure ?_)
  dsimp only
  rw [if_neg (by rw [hoS]; exact Bool.false_ne_true)]
  simp only [Bool.false_eq_true, if_false]
  refine wpAny_bind (wpAny_dictEntries hod hdd ?_)
  have hlen : more.length = eso.size := by rw [← hpo.length]; simp
  have loop : wpAny (model prog w) A (do
      let l ← dictEntries o
      let epoch ← dictEpoch o
      forIn (List.range l.size) PUnit.unit fun i (_ : PUnit) => (do
          let l' ← dictEntries o
          match l'[i]? with
            | some e => do
              holding [e.key, e.val] (dictPut d e.hash e.key e.val)
              let ep' ← dictEpoch o
              if (ep' != epoch) = true then do
                  (unsupported "dict.changed-during-merge" : Sem PUnit)
                  pure (ForInStep.yield PUnit.unit)
                else pure (ForInStep.yield PUnit.unit)
            | _ => do
              (unsupported "dict.changed-during-merge" : Sem PUnit)
              pure (ForInStep.yield PUnit.unit) : Sem (ForInStep PUnit))
      pure ()) Q E s := by
    refine wpAny_bind (wpAny_dictEntries hoo hdo' ?_)
    refine wpAny_bind (wpAny_dictEpoch hoo hdo' ?_)
    refine wpAny_bind ?_
    rw [List.range_eq_range']
    refine wpAny_forIn_list _
      (fun rest _ s' => ∃ h' i, s' = { s with heap := h' } ∧ rest = List.range' i (eso.size - i) ∧ i ≤ eso.size ∧ h'.DictOf knd d (merged kvs (more.take i)) ∧ h'.get? o = some oo ∧ Heap.SameBut d s.heap h')
      _ ?_ ?_ _ _ ⟨s.heap, 0, rfl, by simp, Nat.zero_le _, by simpa [merged] using hd, hoo, Heap.SameBut.refl _ _⟩
    · rintro x rest b s' ⟨h', i, rfl, hr, hi, hd', hoo', hs'⟩
      have hlt : i < eso.size := by
        rcases Nat.lt_or_ge i eso.size with h | h
        · exact h
        · rw [Nat.sub_eq_zero_of_le h] at hr; simp at hr
      obtain ⟨rfl, hrest⟩ : x = i ∧ rest = List.range' (i + 1) (eso.size - (i + 1)) := by
        have e : eso.size - i = (eso.size - (i + 1)) + 1 := by omega
        rw [e, List.range'_succ] at hr
        injection hr with h1 h2
        exact ⟨h1, h2⟩
      refine wpAny_bind (wpAny_dictEntries hoo' hdo' ?_)
      rw [Array.getElem?_eq_getElem hlt]
      obtain ⟨kv, hkv⟩ : ∃ kv, more[x]? = some kv := ⟨more[x]'(by rw [hlen]; exact hlt), List.getElem?_eq_getElem _⟩
      obtain ⟨k, v⟩ := kv
      obtain ⟨hkey, hval⟩ := hpo.get? (e := eso[x]) (by simp [hlt]) hkv
      obtain ⟨k', hkey', hhash⟩ := hko eso[x] (Array.getElem_mem hlt)
      obtain rfl : k' = k := knd.inj _ _ _ hkey' hkey
      show wpAny _ _ (holding [eso[x].key, eso[x].val] (dictPut d eso[x].hash eso[x].key eso[x].val) >>= _) _ _ _
      rw [hhash, hval]
      have hmx : (merged kvs (more.take x)).length ≤ sizeLine := by
        have e1 := merged_length_le kvs (more.take x)
        have e2 : (more.take x).length ≤ more.length := by rw [List.length_take]; omega
        omega
      refine wpAny_bind (wpAny_holding (put_pairs hkey hd' (fun h'' hd'' hs'' => ?_) hmx))
      have hoo'' : h''.get? o = some oo := (hs''.2 o (Ne.symm hdo)).trans hoo'
      refine wpAny_bind (wpAny_dictEpoch hoo'' hdo' ?_)
      rw [if_neg (by simp)]
      exact wpAny_pure ⟨h'', x + 1, rfl, hrest, hlt, by rw [merged_take_succ kvs more x (k', v) hkv]; exact hd'', hoo'', hs'.trans hs''⟩
    · rintro b s' ⟨h', i, rfl, hr, hi, hd', hoo', hs'⟩
      have hin : i = eso.size := by
        rcases Nat.lt_or_ge i eso.size with h | h
        · have e : eso.size - i = (eso.size - (i + 1)) + 1 := by omega
          rw [e, List.range'_succ] at hr; exact nomatch hr
        · exact Nat.le_antisymm hi h
      refine wpAny_pure (hQ h' ?_ hs')
      rw [hin, ← hlen, List.take_length] at hd'; exact hd'
  split
  · refine wpAny_bind (wpAny_dictEntries hoo hdo' ?_)
    refine wpAny_bind ?_
    rw [← Array.forIn_toList]
    refine wpAny_forIn_list _ (fun rest _ s' => s' = s ∧ ∀ e ∈ rest, e ∈ eso.toList) _ ?_ ?_ _ _ ⟨rfl, fun _ h => h⟩
    · rintro x rest b s' ⟨rfl, hin⟩
      obtain ⟨k', hkey', _⟩ := hko x (by simpa using hin x List.mem_cons_self)
      split
      · rename_i a hx
        exact absurd hx (hnr _ _ hkey' a)
      · exact wpAny_pure ⟨rfl, fun e he => hin e (List.mem_cons_of_mem _ he)⟩
    · rintro b s' ⟨rfl, _⟩
      exact loop
  · exact loop
end
end DX
end MP
end
section
set_option autoImplicit false
set_option Elab.async false
set_option linter.all false
set_option maxRecDepth 100000
set_option maxHeartbeats 3200000
namespace MP
namespace DX
open PySem PySem.Spec PyProof.Rows L2
theorem mix_noref {P : Program} {w : World} (k : Key) (v : Value) (h : (mixKind P w).is k v = true) (a : Addr) : v ≠ .ref a := by
  rcases keyIs_shape h with ⟨i, t, rfl, rfl⟩ | ⟨x, t, rfl, rfl⟩ <;> exact fun e => nomatch e
section
variable {prog : Program} {w : World} {A : Around} {E : Value → Shared → Prop} {s : Shared}
theorem disp2 {env : PySem.Env} {a b : Expr} {pos : Pos} {Q : Value → Shared → Prop}
    (h : wpAny (model prog w) A (PySem.eval a env) (fun m s1 => wpAny (model prog w) A (mergeMapping s.heap.objs.size m false) (fun _ s2 => wpAny (model prog w) A (PySem.eval b env) (fun n s3 => wpAny (model prog w) A (mergeMapping s.heap.objs.size n false) (fun _ s4 => Q (.ref s.heap.objs.size) s4) (fun _ _ => False) s3) E s2) (fun _ _ => False) s1) E { s with heap := s.heap.push { cls := .type "dict", data := .dict #[] } }) :
    wpAny (model prog w) A (PySem.eval (.Dict [none, none] [a, b] pos) env) Q E s := by
  have e0 : evalEachOpt [none, none] env = [none, none] := by first | rfl | simp [evalEachOpt, evalOpt]
  rw [arm_eval_Dict, e0]
  refine wpAny_bind (wpAny_standAt ?_)
  unfold dictDisplay
  simp only [evalEach, List.map_cons, List.map_nil, List.zip_cons_cons, List.zip_nil_left, List.forIn_cons, List.forIn_nil]
  have noE : ∀ {α : Type} {m : Sem α} {R : α → Shared → Prop} {s' : Shared} {E' : Value → Shared → Prop}, wpAny (model prog w) A m R (fun _ _ => False) s' → wpAny (model prog w) A m R E' s' := fun q => wpAny_mono q (fun _ _ z => z) fun _ _ z => z.elim
  refine wpAny_bind (wpAny_bind (wpAny_bind (wpAny_pure ?_)))
  dsimp only
  refine wpAny_bind (wpAny_alloc ?_)
  refine wpAny_bind (wpAny_holding (wpAny_bind (wpAny_mono h (fun m s1 hm => wpAny_bind (wpAny_standAt (wpAny_pure ?_))) fun _ _ e => e)))
  refine wpAny_bind (wpAny_onRaise (wpAny_tryCatch (wpAny_onRaise (wpAny_holding (wpAny_mono hm (fun _ s2 h2 => ?_) fun _ _ z => z.elim)))))
  refine wpAny_pure ?_
  dsimp only
  refine wpAny_bind (wpAny_bind (wpAny_pure ?_))
  dsimp only
  refine wpAny_bind (wpAny_pure ?_)
  refine wpAny_bind (wpAny_holding (wpAny_bind (wpAny_mono h2 (fun n s3 hn => wpAny_bind (wpAny_standAt (wpAny_pure ?_))) fun _ _ e => e)))
  refine wpAny_bind (wpAny_onRaise (wpAny_tryCatch (wpAny_onRaise (wpAny_holding (wpAny_mono hn (fun _ s4 h4 => ?_) fun _ _ z => z.elim)))))
  refine wpAny_pure ?_
  dsimp only
  refine wpAny_pure ?_
  dsimp only
  refine wpAny_bind (wpAny_pure ?_)
  exact wpAny_pure h4
end
end DX
end MP
end
section
set_option autoImplicit false
set_option Elab.async false
set_option linter.all false
set_option maxRecDepth 100000
set_option maxHeartbeats 3200000
namespace MP
namespace DX
open PySem PySem.Spec PyProof.Rows L2
def tMix2 (ta tb : TE) : TE := fun σ H Q => ∀ p, H p = none → ta σ (upd H p (.dK [])) fun x H1 => H1 p = some (.dK []) ∧ ∃ a kvs, x = .ref a ∧ a ≠ p ∧ Rd H1 a (.dK kvs) ∧
  tb σ (upd H1 p (.dK (mergeK [] kvs))) fun y H2 => ∃ l, H2 p = some (.dK l) ∧ ∃ b more, y = .ref b ∧ b ≠ p ∧ Rd H2 b (.dK more) ∧ l.length + more.length ≤ sizeLine ∧ Q (.ref p) (upd H2 p (.dK (mergeK l more)))
section
variable {X : Cx}
theorem merge_in {pins : List (Addr × Obj)} {σ : L2.St} {H : Hp} {s : Shared} {p a : Addr} {l more : List (Key × V)} {A : Around} {E : Value → Shared → Prop} {Q : Unit → Shared → Prop} (I : Inv X pins σ H s) (hp : H p = some (.dK l)) (hne : a ≠ p) (ha : Rd H a (.dK more)) (hz : l.length + more.length ≤ sizeLine)
    (h : ∀ s', Inv X pins σ (upd H p (.dK (mergeK l more))) s' → Q () s') : wpAny (model X.prog X.w) A (mergeMapping p (.ref a) false) Q E s := by
  obtain ⟨z1, hd1, vs1, r1, d1⟩ := dk_of I.hok hp
  obtain ⟨z2, hd2, vs2, r2, d2⟩ := dk_rd I.hok ha
  have l1 : l.length = vs1.length := r1.length
  have l2 : more.length = vs2.length := r2.length
  refine merge_pairs (Ne.symm hne) hd2 d1 d2 mix_noref (fun h' dd hs => h _ ?_) (by omega)
  have hzz : (mergeK l more).length ≤ sizeLine := Nat.le_trans (length_mergeK more l) hz
  have he : ∃ q, h'.get? p = some q := let ⟨q, _, _, hq, _⟩ := dd; ⟨q, hq⟩
  exact d_write I (by rw [hp]; exact True.intro) hs he (dk_new hzz hd1 (r2.merge r1) dd)
theorem pe_mix2 {a b : Expr} {ta tb : TE} {pos : Pos} (ha : PE X a ta) (hb : PE X b tb) : PE X (.Dict [none, none] [a, b] pos) (tMix2 ta tb) := by
  refine ⟨fun pins s σ H Q I q => ?_⟩
  have hn := I.hok.fresh (Nat.le_refl s.heap.objs.size)
  have I1 := I.laid (a := s.heap.objs.size) (o := .dK []) (h' := s.heap.push { cls := .type "dict", data := .dict #[] }) (t' := s.toks) (fun _ _ q => Heap.get?_push_of_some _ q) (Nat.le_refl _) (dk_empty s.heap I.big)
  refine disp2 (thn (ha.run pins _ σ _ _ I1 (q _ hn)) fun v s1 ⟨x, H1, I2, rx, e1, a', kvs, ex, ne, rd1, q1⟩ => ?_)
  subst ex
  cases rx
  have hk : kvs.length ≤ sizeLine := (dk_rd I2.hok rd1).1
  refine merge_in I2 e1 ne rd1 (by rw [List.length_nil]; omega) fun s2 I3 => ?_
  refine thn (hb.run pins _ σ _ _ I3 q1) fun v s3 ⟨y, H2, I4, ry, l, e2, b', more, ey, ne2, rd2, hz, q2⟩ => ?_
  subst ey
  cases ry
  exact merge_in I4 e2 ne2 rd2 hz fun s4 I5 => ⟨.ref s.heap.objs.size, _, I5, rfl, q2⟩
end
end DX
open PySem L2
section
variable {g : G} {lv : Nat} {N : List Str} {sc : Scope}
def mixAt (a : Nat) (v : Val) (h : Heap) : Option (List (Key × Val)) := match h[a]? with
  | some (false, .dct l) => (match v with
    | .ref b => if b = a then none else (match rd h b with
      | some (.dct kvs) => if l.length + kvs.length ≤ lim then some (merK l kvs) else none
      | _ => none)
    | _ => none)
  | _ => none
theorem mixAt_ok {a : Nat} {v : Val} {h : Heap} {m : List (Key × Val)} (e : mixAt a v h = some m) : ∃ l b kvs, h[a]? = some (false, .dct l) ∧ v = .ref b ∧ b ≠ a ∧ rd h b = some (.dct kvs) ∧ l.length + kvs.length ≤ lim ∧ m = merK l kvs := by
  unfold mixAt at e
  split at e
  · rename_i l z
    split at e
    · rename_i b
      split at e
      · cases e
      · rename_i hb
        split at e
        · rename_i kvs zk
          split at e
          · rename_i hl
            cases e
            exact ⟨l, b, kvs, z, rfl, hb, zk, hl, rfl⟩
          · cases e
        · cases e
    · cases e
  · cases e
def eMix (fa fb : Fe) : Fe := fun env h => (fa env (h ++ [(false, .dct [])])).bind fun x h1 => match h1[h.length]? with
  | some (false, .dct []) => (match mixAt h.length x h1 with
    | some m => (fb env (h1.set h.length (false, .dct m))).bind fun y h2 => (match mixAt h.length y h2 with
      | some m2 => .ok (.ref h.length) (h2.set h.length (false, .dct m2))
      | none => .bad)
    | none => .bad)
  | _ => .bad
theorem mix_step {ρ : Nat → Addr} {h : Heap} {H : Hp} (r : Rel g ρ h H) {a b : Nat} {l kvs : List (Key × Val)} (z : h[a]? = some (false, .dct l)) (zb : rd h b = some (.dct kvs)) (hl : l.length + kvs.length ≤ lim) :
    ∃ xs ys, H (ρ a) = some (.dK xs) ∧ Rd H (ρ b) (.dK ys) ∧ xs.length = l.length ∧ ys.length = kvs.length ∧ Stp ρ ρ h (h.set a (false, .dct (merK l kvs))) H (upd H (ρ a) (.dK (mergeK xs ys))) ∧ Rel g ρ (h.set a (false, .dct (merK l kvs))) (upd H (ρ a) (.dK (mergeK xs ys))) := by
  obtain ⟨⟨k1, k2⟩, xs, e1, t1⟩ := r.obj _ _ _ z
  obtain ⟨ys, e2, t2, ⟨k3, k4⟩⟩ := r.dct zb
  have sw : Stp ρ ρ h (h.set a (false, .dct (merK l kvs))) H (upd H (ρ a) (.dK (mergeK xs ys))) := Stp.write r z
  refine ⟨xs, ys, e1, e2, t1.length.symm, t2.length.symm, sw, r.write z ⟨⟨?_, merK_kok k4 k2⟩, mergeK xs ys, upd_same, ?_⟩⟩
  · exact Nat.le_trans (merK_len kvs l) (lim_le hl)
  · have := (KR.merge t2 t1).step r sw
    rw [List.length_set] at this
    exact this
theorem so_mix2 {fa fb : Fe} {a b : Expr} {pos : Pos} (ha : SoE g lv N sc fa a) (hb : SoE g lv N sc fb b) : SoE g lv N sc (eMix fa fb) (.Dict [none, none] [a, b] pos) := by
  intro X W G ρ h H env σ Q r er q
  refine (DX.pe_mix2 (self_e X a) (self_e X b)).se fun p hp => ?_
  have st : Stp ρ (ext ρ h.length p) h (h ++ [(false, .dct [])]) H (upd H p (.dK [])) := Stp.alloc r hp
  have r1 : Rel g (ext ρ h.length p) (h ++ [(false, .dct [])]) (upd H p (.dK [])) := r.alloc hp ⟨⟨Nat.zero_le _, fun _ z => absurd z List.not_mem_nil⟩, [], upd_same, by rw [KR]⟩
  have er1 := er.step r st
  refine ha X W G _ _ _ env σ _ r1 er1 (QR.imp (QR.bind (QR.step st q)) fun x H2 ⟨ρ2, h2, v, s2, r2, t2, _, q2⟩ => ?_)
  have hlt : h.length < (h ++ [(false, B.dct [])]).length := by simp
  have hρ : ρ2 h.length = p := by rw [s2.agr _ hlt, ext_new]
  cases z : h2[h.length]? with
  | none => rw [z] at q2; exact q2.elim
  | some c =>
  obtain ⟨bb, c⟩ := c
  rw [z] at q2
  cases bb with
  | true => cases c <;> exact q2.elim
  | false =>
  cases c with
  | lst _ => exact q2.elim
  | ins _ _ => exact q2.elim
  | dct l =>
  cases l with
  | cons _ _ => exact q2.elim
  | nil =>
  dsimp only at q2
  cases zm : mixAt h.length v h2 with
  | none => rw [zm] at q2; exact q2.elim
  | some m =>
  rw [zm] at q2
  dsimp only at q2
  obtain ⟨l, b1, kvs, y1, rfl, y3, y4, y5, rfl⟩ := mixAt_ok zm
  rw [z] at y1
  cases y1
  obtain ⟨_, rfl⟩ := t2.of_ref
  obtain ⟨xs, ys, e1, e2, e3, e4, sw, rw2⟩ := mix_step r2 z y4 y5
  have hx : xs = [] := List.eq_nil_of_length_eq_zero (by simpa using e3)
  subst hx
  have hb1 : b1 < h2.length := by
    unfold rd at y4
    obtain ⟨q, e, _⟩ := Option.map_eq_some_iff.mp y4
    exact lt_of_get e
  rw [hρ] at e1 sw rw2
  have hne : ρ2 b1 ≠ p := fun e => y3 (r2.inj _ _ hb1 (lt_of_get z) (by rw [hρ]; exact e))
  refine ⟨e1, ρ2 b1, ys, rfl, hne, e2, ?_⟩
  have er2 := er1.step r1 s2
  refine hb X W G _ _ _ env σ _ rw2 (er2.step r2 sw) (QR.imp (QR.bind (QR.step sw q2)) fun y H3 ⟨ρ3, h3, u, s3, r3, t3, _, q3⟩ => ?_)
  have hlt2 : h.length < (h2.set h.length (false, B.dct (merK [] kvs))).length := by rw [List.length_set]; exact lt_of_get z
  have hρ3 : ρ3 h.length = p := by rw [s3.agr _ hlt2, hρ]
  cases zm2 : mixAt h.length u h3 with
  | none => rw [zm2] at q3; exact q3.elim
  | some m2 =>
  rw [zm2] at q3
  dsimp only at q3
  obtain ⟨l2, b2, kvs2, w1, rfl, w3, w4, w5, rfl⟩ := mixAt_ok zm2
  obtain ⟨_, rfl⟩ := t3.of_ref
  obtain ⟨xs2, ys2, f1, f2, f3, f4, sw3, rw3⟩ := mix_step r3 w1 w4 w5
  have hb2 : b2 < h3.length := by
    unfold rd at w4
    obtain ⟨q, e, _⟩ := Option.map_eq_some_iff.mp w4
    exact lt_of_get e
  rw [hρ3] at f1 sw3 rw3
  have hne2 : ρ3 b2 ≠ p := fun e => w3 (r3.inj _ _ hb2 (lt_of_get w1) (by rw [hρ3]; exact e))
  refine ⟨xs2, f1, ρ3 b2, ys2, rfl, hne2, f2, ?_, ?_⟩
  · rw [f3, f4]; exact lim_le w5
  · exact QR.to q3 sw3 rw3 (x := .ref p) (by
      rw [VR]
      exact ⟨by rw [List.length_set]; exact lt_of_get w1, by rw [hρ3]⟩)
end
end MP
end
section
set_option autoImplicit false
set_option Elab.async false
set_option linter.all false
set_option maxRecDepth 100000
set_option maxHeartbeats 3200000
namespace MP
open PySem L2 PySem.Calls
section
variable {g : G} {lv : Nat} {N : List Str} {sc : Scope}
theorem run_callC {X : Cx} {W : WX} (G : Good g X N sc W lv) {k np : Nat} {cf : List Val → Heap → Rs Val} {f : Addr} {fd : FuncData} {ps : List Str} {dv : List Val} (D : DOk g k np cf f fd ps) (hk : k ≤ lv) (V : DV g fd ps dv)
    {pins : List (Addr × Obj)} {s : Shared} {ρ : Nat → Addr} {h : Heap} {H : Hp} {σ : L2.St} {args : List Val} {vs : List L2.V} {us : List Value} {Q : VK} (I : Inv X pins σ H s) (r : Rel g ρ h H) (t : VRs g ρ h.length H args vs) (hu : Vals vs us) (hn : (args ++ dv).length = np)
    (q : QR g (VR g) W ρ h H σ (cf (args ++ dv) h) Q) : codeAny (model X.prog X.w) X.A (.call (.ref f) ⟨us, []⟩) (fun r s' => match r with | .ok (.ret v) => EP X pins σ Q v s' | .ok _ => False | .error e => X.xe e s') s := by
  obtain ⟨ds, dvs, b, hd, hv⟩ := V.ex
  have F := G.fn D.fn
  have hq := spF_of (W := W) r (t.append (hv ρ h.length H)) hn q
  have r2 : Vals (vs ++ dvs) (us ++ ds) := hu.append hd
  have hl : (us ++ ds).length = ps.length := by rw [← r2.length]; exact F.len _ _ _ _ hq
  refine codeAny_mono (F.run X.A X.stack s H ⟨us, []⟩ (us ++ ds) (vs ++ dvs) Q (WE W σ) (G.room.mono hk) I.env0 ((by rw [G.hK]; exact b : Binds X.K fd ps ds) s us I.kIn hl) r2 hq) fun r s' hq => ?_
  cases r with
  | error e => exact passAt G.tk σ pins H s e s' I hq
  | ok fl =>
    cases fl with
    | ret u => exact I.after hq
    | next => exact False.elim hq
    | brk => exact False.elim hq
    | cont => exact False.elim hq
/-- what is known of a class method -/
structure CMOk (g : G) (lv : Nat) (c : Nat) (m : Str) (i : MI) : Prop where
  ex : ∃ (k : Nat) (mc : Value) (p f : Addr) (fd : FuncData) (ps : List Str), k ≤ lv ∧ ClX.CRead g.K (g.C c) mc ∧ ClX.CMet g.K (g.C c) mc m p f ∧ DOk g k i.np i.cf f fd ps ∧ DV g fd ps i.dv
def eCm (c : Nat) (i : MI) (fs : Env → Heap → Rs (List Val)) : Fe := fun env h => (fs env h).bind fun vs h1 => if (Val.cls c :: (vs ++ i.dv)).length = i.np then i.cf (.cls c :: (vs ++ i.dv)) h1 else .bad
theorem so_cm {c : Nat} {i : MI} {m x : Str} (T : CMOk g lv c m i) {fs : Env → Heap → Rs (List Val)} {e : Expr} {es : List Expr} {p apos pos : Pos} (hx : sc.names.lookup x = some .globalImplicit) (hm : g.mg x = some (.ref (g.C c))) (hdb : (x == ("__debug__" : Str)) = false)
    (hs : (e :: es).all (fun e => !isSt e) = true) (hn : (e :: es).length < 29) (hl : (apos.endLine == pos.line) = true) (ha : SoA g lv N sc fs (e :: es)) : SoE g lv N sc (eCm c i fs) (.Call (.Attribute (.Name x p) m apos) (e :: es) [] pos) := by
  intro X W G ρ h H env σ Q r er q pins s I
  obtain ⟨k, mc, pp, f, fd, ps, hk, cr, cm, D, V⟩ := T.ex
  rw [← G.hK] at cr cm
  have ld : SE X (.Name x p) σ H (fun y H1 => y = .ref (g.C c) ∧ H1 = H) := (pe_glob (v := .ref (g.C c)) (G.gl hx) (by rw [G.hmg]; exact hm) rfl hdb).se ⟨rfl, rfl⟩
  refine PySem.W.methodCall_KW (pl := (do return (← importBound (.Name x p) X.env).getD true)) (thn (ld pins s I) fun u s1 ⟨y, H1, I1, rx, ey, eH⟩ => ?_) (meth_eval rfl hs hn hl)
  subst ey eH
  obtain rfl : u = Value.ref (g.C c) := rx
  refine ClX.getmethcm_ok I1 cr cm fun s2 I2 => ?_
  simp only [List.all_cons, Bool.and_eq_true, Bool.not_eq_true'] at hs
  refine ClX.callwith_cm I2 (ClX.base_none I1 (Nat.le_refl _)) cm.fi (thn (ha X W G ρ h H1 env σ (fun vs H2 => ∀ (s : Shared), Inv X ((s1.heap.objs.size, PySem.W.methodObj (.ref f) (.ref (g.C c))) :: pins) σ H2 s → ∀ us, Vals vs us → wpAny (model X.prog X.w) X.A (call (.ref s1.heap.objs.size) us) (EP X pins σ Q) X.xe s) r er (QR.imp (QR.bind q) fun ys H2 ⟨ρ2, h2, vs, s2, r2, t2, _, q2⟩ => ?_) pos _ s2 I2) fun us s3 ⟨vs, H2, I3, hu, k3⟩ => ⟨⟨ClX.pin_at I3, I3.kIn⟩, k3 s3 I3 us hu⟩) (starEach_plain hs.1 es X.env) (noStar hs.2 pos X.env)
  intro s I us hu
  by_cases hn : (Val.cls c :: (vs ++ i.dv)).length = i.np
  · rw [if_pos hn] at q2
    have z : wpAny (model X.prog X.w) X.A (call (.ref s1.heap.objs.size) us) (EP X ((s1.heap.objs.size, PySem.W.methodObj (.ref f) (.ref (g.C c))) :: pins) σ Q) X.xe s :=
      wpAny_call (PySem.W.method_call (ClX.pin_at I) (run_callC (us := .ref (g.C c) :: us) (vs := .ref (g.C c) :: ys) (args := .cls c :: vs) G D hk V I r2 (by rw [VRs]; exact ⟨_, _, rfl, by rw [VR], t2⟩) (.cons rfl hu) hn q2))
    exact thn z fun _ _ y => ClX.unpinE y
  · rw [if_neg hn] at q2; exact q2.elim
structure MKI (g : G) (lv : Nat) (c : Nat) (i : MI) : Prop where
  ex : ∃ (k : Nat) (f : Addr) (fd : FuncData) (ps : List Str), k + 1 ≤ lv ∧ Mk g.K (g.C c) f ∧ DOk g k i.np i.cf f fd ps ∧ DV g fd ps i.dv
def eMakeL (j : Nat) (tab : Nat → Option MI) (fs : Env → Heap → Rs (List Val)) : Fe := fun env h => match env[j]?.join with
  | some (.cls c) => (match tab c with
    | some i => eMake c i.np i.cf i.dv fs env h
    | none => .bad)
  | _ => .bad
theorem so_makeL {j : Nat} {tab : Nat → Option MI} {x : Str} (T : ∀ c i, tab c = some i → MKI g lv c i) (hN : N[j]? = some x) (hv : Vis sc x) (hd : (x == ("__debug__" : Str)) = false) (hcd : (x == ("__classdict__" : Str)) = false) {p pos : Pos} {e : Expr} {es : List Expr} {fs : Env → Heap → Rs (List Val)}
    (hs : (e :: es).all (fun e => !isSt e) = true) (ha : SoA g lv N sc fs (e :: es)) : SoE g lv N sc (eMakeL j tab fs) (.Call (.Name x p) (e :: es) [] pos) := by
  intro X W G ρ h H env σ Q r er q pins s I
  unfold eMakeL at q
  split at q
  · rename_i c zc
    split at q
    · rename_i i zi
      obtain ⟨k, f, fd, ps, hk, M, D, V⟩ := (T c i zi).ex
      have hkp' : PySem.W.keepIn X.K (.ref (g.C c)) = true := by rw [G.hK]; exact M.kp
      obtain ⟨y, e1, e2⟩ := er.val j (.cls c) (by
        cases z : env[j]? with
        | none => rw [z] at zc; cases zc
        | some o => rw [z] at zc; cases o <;> cases zc; rfl)
      rw [VR] at e2
      have ld : SE X (.Name x p) σ H (fun y H1 => y = .ref (g.C c) ∧ H1 = H) := (pe_var (i := j) (by rw [G.hN]; exact hN) (G.hsc.vis hv) hd hcd).se ⟨y, e1, e2, rfl⟩
      refine wpAny_Call_Name_kw (thn (ld pins s I) fun u s1 ⟨y, H1, I1, rx, ey, eH⟩ => ?_)
      subst ey eH
      obtain rfl : u = Value.ref (g.C c) := rx
      simp only [List.all_cons, Bool.and_eq_true, Bool.not_eq_true'] at hs
      refine PySem.W.callWith_K (h₀ := X.base) I.ok.mod.kin hkp' (thn (ha X W G ρ h H1 env σ (fun vs H1 => ∀ (s : Shared), Inv X pins σ H1 s → ∀ us, Vals vs us → wpAny (model X.prog X.w) X.A (call (.ref (g.C c)) us) (EP X pins σ Q) X.xe s) r er (QR.imp (QR.bind q) fun xs H1 ⟨ρ1, h1, vs, s1, r1, t1, _, q1⟩ => ?_) pos pins s1 I1) fun us s1 ⟨vs, H1, I1, hu, k1⟩ => ⟨I1.kIn, k1 s1 I1 us hu⟩) (starEach_plain hs.1 es X.env) (noStar hs.2 pos X.env)
      intro s I us hu
      exact run_mk G M D hk V I r1 t1 hu q1
    · exact q.elim
  · exact q.elim
end
end MP
end
section
set_option autoImplicit false
set_option Elab.async false
set_option linter.all false
set_option maxRecDepth 100000
set_option maxHeartbeats 3200000
namespace MP
namespace EX
open PySem PySem.Spec PyProof.Rows L2
abbrev tupIt (t : Addr) : PySem.Obj := { cls := .type "tuple_iterator", data := .fields #[.ref t, .int 0 0] }
abbrev enuO (it : Addr) : PySem.Obj := { cls := .type "enumerate", data := .fields #[.none, .bool false, .ref it, rawInt 0, .none, .none] }
theorem newEnumT (t : Addr) (its : Array Value) :
    Meets (Builtin.«enumerate.__new__» ⟨[.type "enumerate", .ref t], []⟩) (fun _ R s => s.heap.IsTuple t its ∧
      R (.ok (.ret (.ref (s.heap.push (tupIt t)).objs.size))) { s with heap := (s.heap.push (tupIt t)).push (enuO s.heap.objs.size) }) :=
  .of_wp fun prog w A R s hh => by
    obtain ⟨hp, gl, dd, tk, os⟩ := s
    obtain ⟨hT, kk⟩ := hh
    have sub := sub_enumerate
    have go : ∀ {A' : Around} {E' : Value → Shared → Prop} {Q' : Value → Shared → Prop}, Q' (.ref hp.objs.size) ⟨hp.push (tupIt t), gl, dd, tk, os⟩ → wpAny (model prog w) A' (pyIter (.ref t)) Q' E' ⟨hp, gl, dd, tk, os⟩ :=
      fun q => wpAny_pyIter_tuple (items := its) hT q
    wp_walk using go
    refine wpAny_stack_any fun _ => wpAny_pure ?_
    split
    · rename_i c _ _ _ _ _
      cases (c == Value.type "enumerate")
      all_goals (wp_walk using go; exact ⟨_, rfl, kk⟩)
    · wp_walk using go
      exact ⟨_, rfl, kk⟩
theorem callEnumT {prog : Program} {w : World} {A : Around} {E : Value → Shared → Prop} {s : Shared} {t : Addr} {its : Array Value} {Q : Value → Shared → Prop} (hT : s.heap.IsTuple t its)
    (kk : ∀ h', IsEnum h' (s.heap.objs.size + 1) s.heap.objs.size 0 .none → h'.IsTupleIter s.heap.objs.size t 0 → (∀ b o, s.heap.get? b = some o → h'.get? b = some o) → Q (.ref (s.heap.objs.size + 1)) { s with heap := h' }) :
    wpAny (model prog w) A (call (.type "enumerate") [.ref t]) Q E s := by
  refine callType_new F.called_enumerate (by decide) (F.typeCall_enumerate_1 _) (F.newCall_enumerate_1 _) (fun ob => F.args_object_init_2 ob _) F.entry_enumerate_new (newEnumT t its) ⟨hT, ?_⟩
  have sz : (s.heap.push (tupIt t)).objs.size = s.heap.objs.size + 1 := Heap.size_push ..
  have at1 : ((s.heap.push (tupIt t)).push (enuO s.heap.objs.size)).get? (s.heap.push (tupIt t)).objs.size = some (enuO s.heap.objs.size) := Heap.get?_push_size _ rfl
  rw [sz] at at1
  show _ ∧ _
  rw [sz]
  exact ⟨⟨_, at1, rfl⟩, kk _ at1 ⟨_, Heap.get?_push_of_some _ (Heap.get?_push_size _ rfl), rfl, rfl⟩ fun b o x => Heap.get?_push_of_some _ (Heap.get?_push_of_some _ x)⟩
/-- the tuple at a, each item in a new pair -/
def Itet (K : PySem.W.Frag) (a : Addr) : L2.It :=
  ⟨fun i H => ∃ (xs : List V) (x : V), SqT K H a xs ∧ xs[i]? = some x, fun i H v H' => ∃ T x, v = .ref T ∧ H T = none ∧ H' = upd H T (.tup [.int (i : Nat), x]) ∧ ∀ xs, SqT K H a xs → xs[i]? = some x, fun i H => ∃ xs : List V, SqT K H a xs ∧ xs.length = i⟩
theorem apart_of {h : PySem.Heap} {a b : Addr} {o o' : PySem.Obj} {x y : String} (e1 : h.get? a = some o) (c1 : o.cls = .type x) (e2 : h.get? b = some o') (c2 : o'.cls = .type y) (n : x ≠ y) : a ≠ b := fun z => by
  subst z
  rw [e1] at e2
  cases e2
  rw [c1] at c2
  cases c2
  exact n rfl
theorem turnET {P : Program} {w : World} {K : PySem.W.Frag} {elts : List Expr} {kk : Nat} {tpos : Pos} (a e it : Addr) :
    Turn P w K (.Tuple elts kk tpos) (Itet K a) [e, it] e (fun i h => (∃ old, IsEnum h e it ((i : Nat) : Int) old) ∧ h.IsTupleIter it a i) where
  mem := List.mem_cons_self
  obj := fun i h st b hb => by
    obtain ⟨⟨old, he⟩, ⟨o, ho, hc, hd⟩⟩ := st
    rcases List.mem_cons.mp hb with z | hb
    · subst z; exact ⟨_, he, fun v q => nomatch q⟩
    · cases List.mem_singleton.mp hb
      exact ⟨o, ho, fun v q => by rw [hd] at q; cases q⟩
  keep := fun i h h' st k => let ⟨⟨old, he⟩, hi⟩ := st; ⟨⟨old, k e List.mem_cons_self _ he⟩, hi.at fun o q => k it (List.mem_cons_of_mem _ List.mem_cons_self) o q⟩
  item := by
    intro X hP hw hK hc i pins s σ H E I hf st hg
    subst hP hw hK
    obtain ⟨⟨old, he⟩, hit⟩ := st
    obtain ⟨xs, x, hq, hx⟩ := hg
    obtain ⟨its, rv, tp, hz⟩ := I.tuple hq
    obtain ⟨u, hu, ru⟩ := rv.get hx
    obtain ⟨oi, hoi, ci, di⟩ := id hit
    obtain ⟨oa, hoa, ca, da⟩ := id tp
    have n1 : e ≠ it := apart_of he rfl hoi ci (by decide)
    have n2 : e ≠ a := apart_of he rfl hoa ca (by decide)
    have n3 : it ≠ a := apart_of hoi ci hoa ca (by decide)
    have hel := Heap.lt_size he
    have hil := Heap.lt_size hoi
    have hi : i < its.toArray.size := by
      have := (List.getElem?_eq_some_iff.mp hu).1
      simpa using this
    refine wpAny_pyNext_enum_itemD (Draws.tuple (show X.A.in1.handled = none from I.ok.hd hc) it a (Ne.symm n3) its.toArray) he ⟨hit, (show s.heap.IsTuple a its.toArray from tp)⟩ hi n1 (by simp [n1, n2]) fun y h' tk hy ho hst hT hsz hk => ?_
    have ey : y = u := by
      rw [List.getElem?_toArray, hu] at hy
      exact (Option.some.inj hy).symm
    subst ey
    refine ⟨_, rfl, wpAny_letOwnedTupleGo_enum (s := { s with heap := h', toks := tk + 1 }) ho fun h'' he' sb => ?_⟩
    have hT2 := (sb.2 s.heap.objs.size (Nat.ne_of_gt hel)).trans hT
    have new : ObjOk X.prog X.w (upd H s.heap.objs.size (.tup [.int (i : Nat), x])) h'' s.heap.objs.size (.tup [.int (i : Nat), x]) :=
      ⟨by show 2 ≤ sizeLine; decide, [.int i tk, y], .cons ⟨_, rfl⟩ (.cons ru .nil), ⟨_, hT2, rfl, _, rfl⟩⟩
    have I1 : Inv X pins σ (upd H s.heap.objs.size (.tup [.int (i : Nat), x])) { s with heap := h'', toks := tk + 1 } :=
      I.turnedNew (ch := [e, it]) (fun b ob hb q => (sb.2 b fun z => hb (by rw [z]; exact List.mem_cons_self)).trans (hk b ob (fun z => hb (by rw [z]; exact List.mem_cons_self)) (fun z => hb (by rw [z]; exact List.mem_cons_of_mem _ List.mem_cons_self)) q)) hf (Nat.le_refl _) new
    refine ⟨.ref s.heap.objs.size, _, I1, rfl, ⟨_, x, rfl, I.hok.fresh (Nat.le_refl _), rfl, fun ys hy => by rw [I.tuple_inj hy hq]; exact hx⟩, ⟨⟨y, ?_⟩, hst.1.at fun o q => (sb.2 it (Ne.symm n1)).trans q⟩, fun b hb => ?_⟩
    · rw [show ((i + 1 : Nat) : Int) = (i : Int) + 1 by omega]
      exact he'
    · have hb' : b < s.heap.objs.size := by
        rcases List.mem_cons.mp hb with z | z
        · rw [z]; exact hel
        · rw [List.mem_singleton.mp z]; exact hil
      rw [upd_ne (Nat.ne_of_lt hb')]
      exact (hf b hb).1
  done := by
    intro X hP hw hK hc i pins s σ H E I hf st hg
    subst hP hw hK
    obtain ⟨⟨old, he⟩, hit⟩ := st
    obtain ⟨xs, hq, hx⟩ := hg
    obtain ⟨its, rv, tp, hz⟩ := I.tuple hq
    obtain ⟨oi, hoi, ci, di⟩ := id hit
    obtain ⟨oa, hoa, ca, da⟩ := id tp
    have n3 : it ≠ a := apart_of hoi ci hoa ca (by decide)
    obtain ⟨f0, f1, f2, f3, f4, f5⟩ := hf it (List.mem_cons_of_mem _ List.mem_cons_self)
    have hn : its.toArray.size = i := by rw [← hx, rv.length]; simp
    subst hn
    exact wpAny_pyNext_enum_endD (Draws.tuple (show X.A.in1.handled = none from I.ok.hd hc) it a (Ne.symm n3) its.toArray) he ⟨hit, (show s.heap.IsTuple a its.toArray from tp)⟩ fun h' eb => ⟨rfl, I.turned (t' := s.toks) (fun b o hb q => eb b o hb q) f0 f1 f3 f4 f5⟩
  self := fun A i s Q E st k => wpAny_pyIter_enum st.1.choose_spec k
def iEnumT (K : PySem.W.Frag) (ta : TA) : TI := fun σ H R => ta σ H fun vs H1 => ∃ a xs, vs = [.ref a] ∧ SqT K H1 a xs ∧ R (Itet K a) H1
theorem pi_enumT {X : Cx} {e : Expr} {ta : TA} {p pos tpos : Pos} {elts : List Expr} {kk : Nat} (hg : Gl X "enumerate") (hm : X.mg "enumerate" = none) (ha : PA X [e] ta) (hs : starEach [e] X.env = [(false, eval e X.env)] := by rfl) :
    PI X (.Tuple elts kk tpos) (.Call (.Name "enumerate" p) [e] [] pos) (iEnumT X.K ta) := by
  refine ⟨fun pins s σ H R I hw => ?_⟩
  refine Call_ (ld_blt I hg hm boot_enumerate (PyProof.Rows.callWith_type1 (thn (ha.run pos pins s σ H _ I hw) fun us s1 ⟨vs, H1, I1, rs, a, xs, ev, hq, q⟩ => ?_) hs rfl))
  subst ev
  cases rs with
  | cons r1 r2 =>
    cases r2
    cases r1
    obtain ⟨its, rv, tp, hz⟩ := I1.tuple hq
    refine callEnumT (show s1.heap.IsTuple a its.toArray from tp) fun h' he hit hk => wpAny_pyIter_enum he ?_
    refine ⟨s1.heap.objs.size + 1, [s1.heap.objs.size + 1, s1.heap.objs.size], _, _, H1, rfl, I1.kept (t' := s1.toks) hk, turnET a (s1.heap.objs.size + 1) s1.heap.objs.size, ⟨⟨.none, he⟩, hit⟩, fun b hb => ?_, q⟩
    have hle : s1.heap.objs.size ≤ b := by
      rcases List.mem_cons.mp hb with z | z
      · rw [z]; exact Nat.le_succ _
      · rw [List.mem_singleton.mp z]; exact Nat.le_refl _
    exact I1.fpOk hle (I1.hok.fresh hle)
end EX
end MP
end
section
set_option autoImplicit false
set_option Elab.async false
set_option linter.all false
set_option maxRecDepth 100000
set_option maxHeartbeats 3200000
namespace MP
open PySem L2
section
variable {g : G} {lv : Nat} {N : List Str} {sc : Scope}
def enumL (xs : List Val) : List Val := xs.zipIdx.map fun p => Val.tup [.int (p.2 : Int), p.1]
theorem enumL_len (xs : List Val) : (enumL xs).length = xs.length := by simp [enumL]
theorem enumL_get {xs : List Val} {i : Nat} {v : Val} (e : (enumL xs)[i]? = some v) : ∃ w, xs[i]? = some w ∧ v = .tup [.int (i : Int), w] := by
  obtain ⟨⟨w, j⟩, e1, rfl⟩ := map_get e
  rw [List.getElem?_zipIdx] at e1
  obtain ⟨w', e2, e3⟩ := Option.map_eq_some_iff.mp e1
  cases e3
  exact ⟨w, e2, by simp⟩
theorem vr_pair {ρ : Nat → Addr} {h : Heap} {H : Hp} {v w : Val} {x y : L2.V} {T : Addr} (r : Rel g ρ h H) (hT : H T = none) (tv : VR g ρ h.length H v x) (tw : VR g ρ h.length H w y) : VR g ρ h.length (upd H T (.tup [x, y])) (.tup [v, w]) (.ref T) := by
  rw [VR]
  refine ⟨T, _, rfl, ⟨.inl (.inl upd_same), fun z => nomatch z⟩, ?_⟩
  rw [VRs]
  refine ⟨_, _, rfl, tv.step r (Stp.fresh r hT), ?_⟩
  rw [VRs]
  exact ⟨_, _, rfl, tw.step r (Stp.fresh r hT), by rw [VRs]⟩
theorem src_enum {K : PySem.W.Frag} (hK : K = g.K) {a : Nat} {a0 : Addr} {xs : List Val} : SrcOk g (Ite K a0) (enumL xs) (fun ρ h _ => h[a]? = some (true, .lst xs) ∧ ρ a = a0) := by
  subst hK
  have key : ∀ (ρ : Nat → Addr) (h : Heap) (H : Hp), (h[a]? = some (true, .lst xs) ∧ ρ a = a0) → Rel g ρ h H → ∃ ys, SqL g.K H a0 ys ∧ VRs g ρ h.length H xs ys := fun ρ h H S r => by
    obtain ⟨ys, e1, e2, _⟩ := r.lst (i := a) (vs := xs) (by unfold rd; rw [S.1]; rfl)
    rw [S.2] at e1
    exact ⟨ys, e1, e2⟩
  refine ⟨fun ρ h H i S r hi => ?_, fun ρ h H S r => ?_, fun ρ h H i v x H' S r e y => ?_, fun ρ ρ' h h' H H' S r st => ⟨st.lck a _ S.1, by rw [st.agr a (lt_of_get S.1)]; exact S.2⟩, fun _ _ _ _ _ _ S _ _ => S⟩
  · rw [enumL_len] at hi
    obtain ⟨ys, e1, e2⟩ := key ρ h H S r
    exact ⟨ys, ys[i]'(by rw [← e2.length]; exact hi), e1, by simp [← e2.length, hi]⟩
  · obtain ⟨ys, e1, e2⟩ := key ρ h H S r
    exact ⟨ys, e1, by rw [enumL_len, e2.length]; exact Nat.le_refl _⟩
  · obtain ⟨T, y0, rfl, hT, rfl, f⟩ := y
    obtain ⟨w, ew, rfl⟩ := enumL_get e
    obtain ⟨ys, e1, e2⟩ := key ρ h H S r
    obtain ⟨z, a1, a2⟩ := e2.get ew
    rw [f ys e1] at a1; cases a1
    exact ⟨Stp.fresh r hT, r.fresh hT, vr_pair r hT VR.int a2⟩
theorem src_enumT {K : PySem.W.Frag} (hK : K = g.K) {a0 : Addr} {xs : List Val} {ys : List L2.V} : SrcOk g (EX.Itet K a0) (enumL xs) (fun ρ h H => TupAt g.K H a0 ys ∧ VRs g ρ h.length H xs ys) := by
  subst hK
  refine ⟨fun ρ h H i S r hi => ?_, fun ρ h H S r => ⟨ys, S.1.1, by rw [enumL_len, S.2.length]⟩, fun ρ h H i v x H' S r e y => ?_, fun ρ ρ' h h' H H' S r st => ⟨(st.seqT r).tup _ _ S.1, S.2.step r st⟩, fun ρ h H D o o' S e n => ⟨(off_seq (g := g) e n).tup _ _ S.1, S.2.mono (fun _ _ => rfl) (Nat.le_refl _) (off_seq e n)⟩⟩
  · rw [enumL_len] at hi
    exact ⟨ys, ys[i]'(by rw [← S.2.length]; exact hi), S.1.1, by simp [← S.2.length, hi]⟩
  · obtain ⟨T, y0, rfl, hT, rfl, f⟩ := y
    obtain ⟨w, ew, rfl⟩ := enumL_get e
    obtain ⟨z, a1, a2⟩ := S.2.get ew
    rw [f ys S.1.1] at a1; cases a1
    exact ⟨Stp.fresh r hT, r.fresh hT, vr_pair r hT VR.int a2⟩
def enumV (vs : List Val) (h : Heap) : Rs Src := match vs with
  | [.tup xs] => .ok ⟨enumL xs, none⟩ h
  | [.ref a] => (match rd h a with
    | some (.lst xs) => .ok ⟨enumL xs, some a⟩ h
    | _ => .bad)
  | _ => .bad
theorem lockR_lst {X : Cx} {ρ : Nat → Addr} {h : Heap} {H : Hp} {a : Nat} {b : Bool} {xs : List Val} (z : h[a]? = some (b, .lst xs)) : LockR X ρ h H (some a) H := by
  unfold LockR
  dsimp only
  rw [z]
  cases b <;> rfl
theorem i_enum {fs : Env → Heap → Rs (List Val)} {a : Expr} {elts : List Expr} {kk : Nat} {tpos p pos : Pos} (hx : sc.names.lookup ("enumerate" : Str) = some .globalImplicit) (hm : g.mg "enumerate" = none) (hs : isSt a = false) (ha : SoA g lv N sc fs [a]) :
    SoI g lv N sc (fun env h => (fs env h).bind enumV) (.Tuple elts kk tpos) (.Call (.Name "enumerate" p) [a] [] pos) := by
  intro X W G ρ h H env σ R r er q
  have q1 := QI.bind (T := VRs g) q
  have lst : ∀ R' : L2.It → Hp → Prop, iEnum X.K (SA X [a]) σ H R' → SI X (.Tuple elts kk tpos) (.Call (.Name "enumerate" p) [a] [] pos) σ H R' := fun R' q =>
    (pi_enum (G.gl hx) (by rw [G.hmg]; exact hm) (self_a X [a]) (starEach_plain hs [] X.env)).se q
  have tup : ∀ R' : L2.It → Hp → Prop, EX.iEnumT X.K (SA X [a]) σ H R' → SI X (.Tuple elts kk tpos) (.Call (.Name "enumerate" p) [a] [] pos) σ H R' := fun R' q =>
    (EX.pi_enumT (G.gl hx) (by rw [G.hmg]; exact hm) (self_a X [a]) (starEach_plain hs [] X.env)).se q
  cases z : fs env h with
  | bad => rw [z] at q1; exact q1.elim
  | ex c fl h' =>
    refine lst _ (ha X W G ρ h H env σ _ r er (QR.imp q1 fun x H1 ⟨ρ1, h1, v, s1, r1, t1, Ea, q2⟩ => ?_))
    rw [z] at Ea; cases Ea
  | ok vs h0 =>
    have no : ∀ {P : Prop}, enumV vs h0 = .bad → P := fun e => by
      have q' : QI g X W ρ h H σ (enumV vs h0) R := by have q' := q; simp only [z] at q'; exact q'
      rw [e] at q'; exact q'.elim
    match vs, z with
    | [.tup xs], z =>
      refine tup _ (ha X W G ρ h H env σ _ r er (QR.imp q1 fun x H1 ⟨ρ1, h1, v, s1, r1, t1, Ea, q2⟩ => ?_))
      rw [z] at Ea; cases Ea
      rw [VRs] at t1
      obtain ⟨y, yr, rfl, t1, t2⟩ := t1
      rw [VRs] at t2
      subst t2
      obtain ⟨a, ys, rfl, e1, e2⟩ := t1.of_tupA
      exact ⟨a, ys, rfl, by rw [G.hK]; exact e1.1, q2 ρ1 H1 H1 _ _ (Stp.refl ..) r1 rfl (src_enumT (ys := ys) G.hK) ⟨e1, e2⟩⟩
    | [.ref a], z =>
      cases zr : rd h0 a with
      | none => exact no (by unfold enumV; simp only [zr])
      | some c =>
        cases c with
        | lst xs =>
          refine lst _ (ha X W G ρ h H env σ _ r er (QR.imp q1 fun x H1 ⟨ρ1, h1, v, s1, r1, t1, Ea, q2⟩ => ?_))
          rw [z] at Ea; cases Ea
          rw [VRs] at t1
          obtain ⟨y, yr, rfl, t1, t2⟩ := t1
          rw [VRs] at t2
          subst t2
          obtain ⟨hl, rfl⟩ := t1.of_ref
          obtain ⟨ys, e1, e2, _⟩ := r1.lst zr
          obtain ⟨b, zc⟩ := rd_cell zr
          simp only [enumV, zr] at q2
          exact ⟨_, ys, rfl, by rw [G.hK]; exact e1, q2 ρ1 H1 H1 _ _ (Stp.refl ..) r1 (lockR_lst zc) (src_enum G.hK) ⟨lock_at zc, rfl⟩⟩
        | dct _ => exact no (by unfold enumV; simp only [zr])
        | ins _ _ => exact no (by unfold enumV; simp only [zr])
    | [], _ => exact no rfl
    | [.non], _ | [.bl _], _ | [.int _], _ | [.str _], _ | [.cls _], _ | [.ty _], _ | [.scr _], _ | [.exc _ _ _], _ | [.exc0 _], _ => exact no rfl
    | v :: _ :: _, _ => exact no (by cases v <;> rfl)
def zipL (xs ys : List Val) : List Val := (xs.zip ys).map fun p => Val.tup [p.1, p.2]
theorem zipL_get {xs ys : List Val} {i : Nat} {v : Val} (e : (zipL xs ys)[i]? = some v) : ∃ w u, xs[i]? = some w ∧ ys[i]? = some u ∧ v = .tup [w, u] := by
  obtain ⟨⟨w, u⟩, e1, rfl⟩ := map_get e
  rw [List.getElem?_zip_eq_some] at e1
  exact ⟨w, u, e1.1, e1.2, rfl⟩
theorem zipL_len (xs ys : List Val) : (zipL xs ys).length = min xs.length ys.length := by simp [zipL]
theorem src_zip {K : PySem.W.Frag} (hK : K = g.K) {a b : Nat} {a0 b0 : Addr} {xs ys : List Val} : SrcOk g (Itz K a0 b0) (zipL xs ys) (fun ρ h _ => (h[a]? = some (true, .lst xs) ∧ ρ a = a0) ∧ h[b]? = some (true, .lst ys) ∧ ρ b = b0) := by
  subst hK
  have key : ∀ (a : Nat) (a0 : Addr) (xs : List Val) (ρ : Nat → Addr) (h : Heap) (H : Hp), (h[a]? = some (true, .lst xs) ∧ ρ a = a0) → Rel g ρ h H → ∃ ys, SqL g.K H a0 ys ∧ VRs g ρ h.length H xs ys := fun a a0 xs ρ h H S r => by
    obtain ⟨ys, e1, e2, _⟩ := r.lst (i := a) (vs := xs) (by unfold rd; rw [S.1]; rfl)
    rw [S.2] at e1
    exact ⟨ys, e1, e2⟩
  refine ⟨fun ρ h H i S r hi => ?_, fun ρ h H S r => ?_, fun ρ h H i v x H' S r e y => ?_, fun ρ ρ' h h' H H' S r st => ⟨⟨st.lck a _ S.1.1, by rw [st.agr a (lt_of_get S.1.1)]; exact S.1.2⟩, st.lck b _ S.2.1, by rw [st.agr b (lt_of_get S.2.1)]; exact S.2.2⟩, fun _ _ _ _ _ _ S _ _ => S⟩
  · rw [zipL_len] at hi
    obtain ⟨p, e1, e2⟩ := key _ _ _ ρ h H S.1 r
    obtain ⟨q, e3, e4⟩ := key _ _ _ ρ h H S.2 r
    exact ⟨p, q, p[i]'(by rw [← e2.length]; omega), q[i]'(by rw [← e4.length]; omega), e1, e3, by simp, by simp⟩
  · obtain ⟨p, e1, e2⟩ := key _ _ _ ρ h H S.1 r
    obtain ⟨q, e3, e4⟩ := key _ _ _ ρ h H S.2 r
    refine ⟨p, q, e1, e3, ?_⟩
    rw [zipL_len, ← e2.length, ← e4.length]
    omega
  · obtain ⟨T, y0, y1, rfl, hT, rfl, f0, f1⟩ := y
    obtain ⟨w, u, ew, eu, rfl⟩ := zipL_get e
    obtain ⟨p, e1, e2⟩ := key _ _ _ ρ h H S.1 r
    obtain ⟨q, e3, e4⟩ := key _ _ _ ρ h H S.2 r
    obtain ⟨z, a1, a2⟩ := e2.get ew
    rw [f0 p e1] at a1; cases a1
    obtain ⟨z, b1, b2⟩ := e4.get eu
    rw [f1 q e3] at b1; cases b1
    exact ⟨Stp.fresh r hT, r.fresh hT, vr_pair r hT a2 b2⟩
theorem src_zipT {K : PySem.W.Frag} (hK : K = g.K) {a0 b0 : Addr} {xs ys : List Val} {p q : List L2.V} : SrcOk g (RZ.ItzT K a0 b0) (zipL xs ys) (fun ρ h H => (TupAt g.K H a0 p ∧ VRs g ρ h.length H xs p) ∧ TupAt g.K H b0 q ∧ VRs g ρ h.length H ys q) := by
  subst hK
  refine ⟨fun ρ h H i S r hi => ?_, fun ρ h H S r => ?_, fun ρ h H i v x H' S r e y => ?_, fun ρ ρ' h h' H H' S r st => ⟨⟨(st.seqT r).tup _ _ S.1.1, S.1.2.step r st⟩, (st.seqT r).tup _ _ S.2.1, S.2.2.step r st⟩, fun ρ h H D o o' S e n => ⟨⟨(off_seq (g := g) e n).tup _ _ S.1.1, S.1.2.mono (fun _ _ => rfl) (Nat.le_refl _) (off_seq e n)⟩, (off_seq (g := g) e n).tup _ _ S.2.1, S.2.2.mono (fun _ _ => rfl) (Nat.le_refl _) (off_seq e n)⟩⟩
  · rw [zipL_len] at hi
    exact ⟨p, q, p[i]'(by rw [← S.1.2.length]; omega), q[i]'(by rw [← S.2.2.length]; omega), S.1.1.1, S.2.1.1, by simp, by simp⟩
  · refine ⟨p, q, S.1.1.1, S.2.1.1, ?_⟩
    rw [zipL_len, ← S.1.2.length, ← S.2.2.length]
    omega
  · obtain ⟨T, y0, y1, rfl, hT, rfl, f0, f1⟩ := y
    obtain ⟨w, u, ew, eu, rfl⟩ := zipL_get e
    obtain ⟨z, a1, a2⟩ := S.1.2.get ew
    rw [f0 p S.1.1.1] at a1; cases a1
    obtain ⟨z, b1, b2⟩ := S.2.2.get eu
    rw [f1 q S.2.1.1] at b1; cases b1
    exact ⟨Stp.fresh r hT, r.fresh hT, vr_pair r hT a2 b2⟩
/-- lists: the second one is locked in the heap that comes, the first one by the loop -/
def zipV (vs : List Val) (h : Heap) : Rs Src := match vs with
  | [.tup xs, .tup ys] => .ok ⟨zipL xs ys, none⟩ h
  | [.ref a, .ref b] => (match rd h a, rd h b with
    | some (.lst xs), some (.lst ys) => .ok ⟨zipL xs ys, some a⟩ (lockH h (some b))
    | _, _ => .bad)
  | _ => .bad
theorem lock_get {h : Heap} {a : Nat} {x : Bool} {c : B} (e : h[a]? = some (x, c)) (lk : Option Nat) : ∃ y, (lockH h lk)[a]? = some (y, c) ∧ (x = true → y = true) := by
  unfold lockH
  cases lk with
  | none => exact ⟨x, e, id⟩
  | some k =>
    dsimp only
    split
    · rename_i b eb
      by_cases hk : k = a
      · subst hk
        rw [e] at eb
        cases eb
        exact ⟨true, List.getElem?_set_self (lt_of_get e), fun _ => rfl⟩
      · exact ⟨x, by rw [List.getElem?_set_ne hk]; exact e, id⟩
    · exact ⟨x, e, id⟩
theorem i_zip {fs : Env → Heap → Rs (List Val)} {a b : Expr} {elts : List Expr} {kk : Nat} {tpos p pos : Pos} (hx : sc.names.lookup ("zip" : Str) = some .globalImplicit) (hm : g.mg "zip" = none) (hs : isSt a = false) (hs2 : isSt b = false) (ha : SoA g lv N sc fs [a, b]) :
    SoI g lv N sc (fun env h => (fs env h).bind zipV) (.Tuple elts kk tpos) (.Call (.Name "zip" p) [a, b] [] pos) := by
  intro X W G ρ h H env σ R r er q
  refine (RZ.pi_zipA (G.gl hx) (by rw [G.hmg]; exact hm) (self_a X [a, b]) (starEach_plain hs [b] X.env) (by rw [starEach_plain hs2]; rfl)).se ?_
  refine ha X W G ρ h H env σ _ r er (QR.imp (QI.bind (T := VRs g) q) fun x H1 ⟨ρ1, h1, v, s1, r1, t1, _, q2⟩ => ?_)
  unfold zipV at q2
  split at q2
  · rename_i xs ys
    rw [VRs] at t1
    obtain ⟨y, yr, rfl, t1, t2⟩ := t1
    rw [VRs] at t2
    obtain ⟨y2, yr2, rfl, t2, t3⟩ := t2
    rw [VRs] at t3
    subst t3
    obtain ⟨a, p, rfl, e1, e2⟩ := t1.of_tupA
    obtain ⟨b, q, rfl, e3, e4⟩ := t2.of_tupA
    exact ⟨a, b, p, q, rfl, .inr ⟨by rw [G.hK]; exact e1.1, by rw [G.hK]; exact e3.1, q2 ρ1 H1 H1 _ _ (Stp.refl ..) r1 rfl (src_zipT (p := p) (q := q) G.hK) ⟨⟨e1, e2⟩, e3, e4⟩⟩⟩
  · rename_i a b _
    split at q2
    · rename_i xs ys za zb
      rw [VRs] at t1
      obtain ⟨y, yr, rfl, t1, t2⟩ := t1
      rw [VRs] at t2
      obtain ⟨y2, yr2, rfl, t2, t3⟩ := t2
      rw [VRs] at t3
      subst t3
      obtain ⟨_, rfl⟩ := t1.of_ref
      obtain ⟨_, rfl⟩ := t2.of_ref
      obtain ⟨p, e1, e2, _⟩ := r1.lst za
      obtain ⟨q, e3, e4, _⟩ := r1.lst zb
      obtain ⟨ba, ca⟩ := rd_cell za
      obtain ⟨bb, cb⟩ := rd_cell zb
      obtain ⟨ls, lr⟩ := lock_step r1 (lockR_lst (X := X) cb)
      obtain ⟨ba', ca', _⟩ := lock_get ca (some b)
      obtain ⟨bb', cb', hb⟩ := lock_get (lock_at cb) (some a)
      cases hb rfl
      exact ⟨_, _, p, q, rfl, .inl ⟨by rw [G.hK]; exact e1, by rw [G.hK]; exact e3, q2 ρ1 H1 H1 _ _ ls lr (lockR_lst ca') (src_zip (a := a) (b := b) G.hK) ⟨⟨lock_at ca', rfl⟩, cb', rfl⟩⟩⟩
    · exact q2.elim
  · exact q2.elim
def relC : Option Cell → Cell → Cell
  | some (false, _), (true, .lst vs) => (false, .lst vs)
  | _, c => c
def relH (h h' : Heap) : Heap := h'.mapIdx fun i c => relC h[i]? c
theorem relH_get {h h' : Heap} {i : Nat} : (relH h h')[i]? = (h'[i]?).map (relC h[i]?) := by unfold relH; rw [List.getElem?_mapIdx]
theorem relH_len {h h' : Heap} : (relH h h').length = h'.length := by simp [relH]
theorem relC_or {ρ : Nat → Addr} {n : Nat} {H : Hp} {a : Addr} {o : Option Cell} {b : Bool} {c : B} (t : OR g ρ n H a b c) : OR g ρ n H a (relC o (b, c)).1 (relC o (b, c)).2 := by
  unfold relC
  split
  · rename_i e
    cases e
    exact t
  · exact t
theorem rel_rel {ρ : Nat → Addr} {h h' : Heap} {H : Hp} (r : Rel g ρ h' H) : Rel g ρ (relH h h') H := by
  refine ⟨fun i j hi hj => r.inj i j (by rw [relH_len] at hi; exact hi) (by rw [relH_len] at hj; exact hj), fun i b c e => ?_⟩
  rw [relH_get] at e
  obtain ⟨⟨b', c'⟩, e1, e2⟩ := Option.map_eq_some_iff.mp e
  have := relC_or (o := h[i]?) (r.obj i b' c' e1)
  rw [e2] at this
  rw [relH_len]
  exact this
theorem rel_stp {ρ ρ' : Nat → Addr} {h h' : Heap} {H H' : Hp} (s : Stp ρ ρ' h h' H H') : Stp ρ ρ' h (relH h h') H H' := by
  refine ⟨by rw [relH_len]; exact s.len, s.agr, fun i a b => s.new i a (by rw [relH_len] at b; exact b), s.kep, s.frm, fun i c e => ?_⟩
  rw [relH_get, s.lck i c e, e]
  rfl
def relR {α : Type} (h : Heap) (r : Rs α) : Rs α := match r with
  | .ok a h' => .ok a (relH h h')
  | .ex c fs h' => .ex c fs (relH h h')
  | .bad => .bad
def relL (f : Fe) : Fe := fun env h => relR h (f env h)
theorem so_rel {f : Fe} {e : Expr} (he : SoE g lv N sc f e) : SoE g lv N sc (relL f) e := by
  intro X W G ρ h H env σ Q r er q
  refine he X W G ρ h H env σ Q r er ?_
  have q' : QR g (VR g) W ρ h H σ (relR h (f env h)) Q := q
  cases z : f env h with
  | bad => rw [z] at q'; exact q'
  | ok v h' =>
    rw [z] at q'
    exact fun ρ' H' b s1 r1 t1 => q' ρ' H' b (rel_stp s1) (rel_rel r1) (by rw [relH_len]; exact t1)
  | ex c fs h' =>
    rw [z] at q'
    exact fun ρ' H' d xs s1 r1 e1 t1 => q' ρ' H' d xs (rel_stp s1) (rel_rel r1) e1 (by rw [relH_len]; exact t1)
def eqII (x y : Val) (h : Heap) : Rs Val := match x, y with
  | .int i, .int j => .ok (.bl (i == j)) h
  | _, _ => .bad
theorem co_eqI : SoO g lv (compareOp .Eq) eqII := by
  intro X W N sc G ρ h H σ x y vx vy Q r tx ty q
  cases x <;> cases y <;> first
    | exact q.elim
    | (rename_i i j
       exact (op_eqData (σ0 := σ) (b := (i == j)) G r tx ty rfl).1 (QR.ok (T := VR g) r VR.bl q))
end
end MP
end
section
set_option autoImplicit false
set_option linter.all false
namespace MP
open PySem L2
/-- no dict is locked -/
def noDct (h : Heap) (lk : Option Nat) : Bool := match lk with
  | none => true
  | some a => (match h[a]? with
    | some (_, .lst _) => true
    | _ => false)
def lc2Go (f : Val → Heap → Rs (List Val)) : List Val → List Val → Heap → Rs (List Val)
  | [], acc, h => .ok acc h
  | v :: r, acc, h => if acc.length ≤ lim then (match f v h with
    | .ok ys h1 => lc2Go f r (acc ++ ys) h1
    | _ => .bad) else .bad
def lcIn (fi1 : Fi) (ft1 : Fg) (fc1 : Env → Heap → Rs Bool) (fe : Fe) (own1 : List Nat) (env : Env) (h : Heap) : Rs (List Val) :=
  (fi1 env h).bind fun src h4 => if src.xs.length ≤ lim ∧ noDct h4 src.lk = true then (lcGo (lcTurn ft1 fc1 fe (wipeE env own1)) src.xs [] (lockH h4 src.lk)).bind fun ys h5 => .ok ys (unlockH h4 h5 src.lk) else .bad
def lc2Turn (ft : Fg) (fc : Env → Heap → Rs Bool) (fi1 : Fi) (ft1 : Fg) (fc1 : Env → Heap → Rs Bool) (fe : Fe) (own1 : List Nat) (env : Env) (v : Val) (h : Heap) : Rs (List Val) :=
  (ft v env h).bind fun env2 h2 => (fc env2 h2).bind fun b h3 => if b then lcIn fi1 ft1 fc1 fe own1 env2 h3 else .ok [] h3
def eLc2 (fi : Fi) (ft : Fg) (fc : Env → Heap → Rs Bool) (fi1 : Fi) (ft1 : Fg) (fc1 : Env → Heap → Rs Bool) (fe : Fe) (own own1 : List Nat) : Fe := fun env h => (fi env h).bind fun src h1 =>
  if src.xs.length ≤ lim then (lc2Go (lc2Turn ft fc fi1 ft1 fc1 fe own1 (wipeE env own)) src.xs [] (lockH h1 src.lk)).bind fun ys h2 => if ys.length ≤ lim then al (unlockH h1 h2 src.lk) (.lst ys) else .bad else .bad
section
variable {g : G} {lv : Nat} {N : List Str} {sc : Scope}
theorem lock_no {X : Cx} {ρ : Nat → Addr} {h : Heap} {H H2 : Hp} {lk : Option Nat} (n : noDct h lk = true) (l : LockR X ρ h H lk H2) : H2 = H := by
  cases lk with
  | none => exact l
  | some a =>
    unfold LockR at l
    unfold noDct at n
    dsimp only at l n
    cases z : h[a]? with
    | none => rw [z] at l; exact l.elim
    | some c =>
      obtain ⟨b, c⟩ := c
      rw [z] at l n
      cases c with
      | lst vs => cases b <;> exact l
      | _ => cases n
/-- from one state to a later one, but for what stands at D -/
structure StpD (D : Addr) (ρ ρ' : Nat → Addr) (h h' : Heap) (H H' : Hp) : Prop where
  len : h.length ≤ h'.length
  agr : ∀ i, i < h.length → ρ' i = ρ i
  new : ∀ i, h.length ≤ i → i < h'.length → H (ρ' i) = none
  kep : ∀ b, H' b = none → H b = none
  frm : ∀ b o, b ≠ D → H b = some o → (∀ (i : Nat) (c : B), h[i]? = some (false, c) → ρ i ≠ b) → H' b = some o
  lck : ∀ (i : Nat) (c : B), h[i]? = some (true, c) → h'[i]? = some (true, c)
section
variable {D : Addr} {ρ ρ' ρ1 ρ2 : Nat → Addr} {h h' h1 h2 : Heap} {H H' H1 H2 : Hp}
theorem Stp.d (a : Stp ρ ρ' h h' H H') : StpD D ρ ρ' h h' H H' := ⟨a.len, a.agr, a.new, a.kep, fun b o _ => a.frm b o, a.lck⟩
theorem StpD.trans (a : StpD D ρ ρ1 h h1 H H1) (b : StpD D ρ1 ρ2 h1 h2 H1 H2) : StpD D ρ ρ2 h h2 H H2 where
  len := Nat.le_trans a.len b.len
  agr := fun i hi => (b.agr i (Nat.lt_of_lt_of_le hi a.len)).trans (a.agr i hi)
  new := fun i h1' h2' => by
    by_cases hi : i < h1.length
    · rw [b.agr i hi]; exact a.new i h1' hi
    · exact a.kep _ (b.new i (by omega) h2')
  kep := fun c e => a.kep c (b.kep c e)
  frm := fun c o hd e hn => b.frm c o hd (a.frm c o hd e hn) fun i c' ei er => by
    by_cases hi : i < h.length
    · cases e' : h[i]? with
      | none => exact absurd (List.getElem?_eq_none_iff.mp e') (by omega)
      | some q =>
        obtain ⟨bq, cq⟩ := q
        cases bq with
        | true => rw [a.lck i cq e'] at ei; cases ei
        | false => exact hn i cq e' (by rw [← a.agr i hi]; exact er)
    · have z := a.new i (by omega) (lt_of_get ei)
      rw [er, e] at z; cases z
  lck := fun i c e => b.lck i c (a.lck i c e)
theorem StpD.lay (a : StpD D ρ ρ' h h' H H') {o : HO} : StpD D ρ ρ' h h' H (upd H' D o) := ⟨a.len, a.agr, a.new, fun b e => by
  by_cases hb : b = D
  · rw [hb, upd_same] at e; cases e
  · rw [upd_ne hb] at e; exact a.kep b e, fun b o hd e hn => by rw [upd_ne hd]; exact a.frm b o hd e hn, a.lck⟩
theorem Stp.transD (a : Stp ρ ρ1 h h1 H H1) (hD : H D = none) (b : StpD D ρ1 ρ2 h1 h2 H1 H2) : Stp ρ ρ2 h h2 H H2 :=
  have c := (a.d (D := D)).trans b
  ⟨c.len, c.agr, c.new, c.kep, fun b o e => c.frm b o (by rintro rfl; rw [hD] at e; cases e) e, c.lck⟩
end
theorem unlock_no {X : Cx} {D : Addr} {ρ ρ3 : Nat → Addr} {h h3 : Heap} {H H2 H3 : Hp} {lk : Option Nat} (n : noDct h lk = true) (r : Rel g ρ h H) (l : LockR X ρ h H lk H2) (off : Off ρ h D) (st : StpD D ρ ρ3 (lockH h lk) h3 H2 H3) (r3 : Rel g ρ3 h3 H3) :
    StpD D ρ ρ3 h (unlockH h h3 lk) H H3 ∧ Rel g ρ3 (unlockH h h3 lk) H3 := by
  obtain ⟨ls, lr⟩ := lock_step r l
  have st1 := (ls.d (D := D)).trans st
  cases lk with
  | none => exact ⟨st1, r3⟩
  | some a =>
    unfold LockR at l
    unfold noDct at n
    unfold unlockH
    dsimp only at l n ⊢
    cases z : h[a]? with
    | none => rw [z] at l; exact l.elim
    | some c =>
      obtain ⟨b, c⟩ := c
      rw [z] at l n
      cases b with
      | true => exact ⟨st1, r3⟩
      | false =>
        have ha : a < h.length := lt_of_get z
        have hl3 : (lockH h (some a))[a]? = some (true, c) := by
          unfold lockH
          dsimp only
          rw [z]
          exact List.getElem?_set_self ha
        have hc3 : h3[a]? = some (true, c) := st.lck a c hl3
        have hρ : ρ3 a = ρ a := st1.agr a ha
        have hlen : ∀ c', (h3.set a (false, c')).length = h3.length := fun c' => List.length_set
        cases c with
        | ins _ _ => cases n
        | dct _ => cases n
        | lst vs =>
          cases (show H2 = H from l)
          dsimp only
          obtain ⟨hl, xs, e1, e2⟩ := r.obj a false _ z
          have e3 : H3 (ρ a) = some (.lst xs) := st.frm _ _ (off a ha) e1 fun i c' ei er => by
            have hi := lt_of_get ei
            rw [lock_len] at hi
            have : i = a := r.inj i a hi ha er
            subst this
            rw [hl3] at ei; cases ei
          refine ⟨⟨by rw [hlen]; exact st1.len, st1.agr, fun i h1' h2' => st1.new i h1' (by rw [hlen] at h2'; exact h2'), st1.kep, st1.frm, fun i c' e => ?_⟩, ⟨fun i j hi hj => r3.inj i j (by rw [hlen] at hi; exact hi) (by rw [hlen] at hj; exact hj), fun i b c' e => ?_⟩⟩
          · rw [List.getElem?_set_ne (by rintro rfl; rw [z] at e; cases e)]; exact st1.lck i c' e
          · rw [hlen]
            rcases set_get e with ⟨rfl, q⟩ | ⟨hi, q⟩
            · cases q
              rw [hρ]
              obtain ⟨hl', ys, e1', e2'⟩ := r3.obj _ _ _ hc3
              rw [hρ, e3] at e1'
              cases e1'
              exact ⟨hl', xs, e3, e2'⟩
            · exact r3.obj i b c' q
abbrev bI (X : Cx) (scope : Scope) (tg it : Expr) : TI := fun σ H R => ∀ s H0 C cl fp, SI (Bk X scope s H0 C cl fp) tg it σ H R
theorem bI_ok (X : Cx) (scope : Scope) (tg it : Expr) : ∀ (s : Shared) (H : Hp) (C : Addr) (cl : List (Str × Addr)) (fp : List Addr), PI (X.blk s H scope (compEnvC scope cl C X.env) fp) tg it (bI X scope tg it) := fun s H C cl fp => ⟨fun pins s' σ H' R I k => k s H C cl fp pins s' I⟩
theorem _root_.MP.ER.lay {ρ : Nat → Addr} {n : Nat} {H : Hp} {env : Env} {σ : L2.St} {D : Addr} {o o' : HO} (e : ER g ρ n H env σ) (eD : H D = some o) (nt : notTup o) : ER g ρ n (upd H D o') env σ := ⟨e.len, fun i v h => by
  obtain ⟨x, h1, h2⟩ := e.val i v h
  exact ⟨x, h1, h2.mono (fun _ _ => rfl) (Nat.le_refl _) (off_seq eD nt)⟩⟩
/-- a turn of the first clause, from behind its tests -/
theorem lc2_in {fi1 : Fi} {ft1 : Fg} {fc1 : Env → Heap → Rs Bool} {fe : Fe} {sl1 : List Nat} {scope : Scope} {tg1 it1 elt : Expr} {ifs1 : List Expr} (hx1 : ∀ v env h c fs h', ft1 v env h ≠ .ex c fs h')
    (hi1 : SoI g lv N scope fi1 tg1 it1) (ht1 : SoG g lv N scope sl1 ft1 tg1) (hc1 : SoTs g lv N scope fc1 ifs1) (he : SoE g lv N scope fe elt)
    {X : Cx} {W : WX} (G : Good g X N sc W lv) {ρ : Nat → Addr} {h : Heap} {H : Hp} {env : Env} {σ : L2.St} {D : Addr} {acc : List L2.V} {ys : List Val} (r : Rel g ρ h H) (er : ER g ρ h.length H env σ) (offD : Off ρ h D) (eD : H D = some (.lst acc)) (vac : VRs g ρ h.length H ys acc) (hyl : ys.length ≤ lim) {Nx : Hp → Prop} {zs : List Val} {h' : Heap}
    (eq : lcIn fi1 ft1 fc1 fe sl1 env h = .ok zs h') (k : ∀ ρ' H' acc', StpD D ρ ρ' h h' H H' → Rel g ρ' h' H' → Off ρ' h' D → H' D = some (.lst acc') → VRs g ρ' h'.length H' (ys ++ zs) acc' → Nx H') :
    bI X scope tg1 it1 σ H fun J1 H4 => ∃ W1 : Nat → Nat → Hp → Prop, (∃ m, W1 0 m H4) ∧ ∀ j k H, W1 j k H →
      (J1.stop j H ∧ Nx H) ∨ (J1.go j H ∧ ∃ Nx1 : Hp → Prop, (∀ H', Nx1 H' → ∃ k', k' < k ∧ W1 (j + 1) k' H') ∧ ∀ x H', J1.yld j H x H' → bG X scope tg1 x (wipe σ sl1) H' fun σ3 H5 => wipe σ3 sl1 = wipe σ sl1 ∧ bT X scope ifs1 σ3 H5 fun b H6 =>
        if b = true then bE X scope elt σ3 H6 fun y H7 => ∃ acc, H7 D = some (.lst acc) ∧ acc.length < sizeLine ∧ Nx1 (upd H7 D (.lst (acc ++ [y]))) else Nx1 H6) := by
  intro s0 H0 C cl fp
  refine hi1 _ _ (G.blk scope s0 H0 C cl fp) ρ h H env σ _ r er ?_
  unfold lcIn at eq
  cases z : fi1 env h with
  | bad => rw [z] at eq; cases eq
  | ex c fs h' => rw [z] at eq; cases eq
  | ok src h1 =>
    rw [z] at eq
    obtain ⟨xs, lk⟩ := src
    intro ρ1 H1 H2 J S s1 r1 lr J1 S1
    dsimp only at lr J1 S1
    have eq1 : (if xs.length ≤ lim ∧ noDct h1 lk = true then (lcGo (lcTurn ft1 fc1 fe (wipeE env sl1)) xs [] (lockH h1 lk)).bind fun ys h5 => Rs.ok ys (unlockH h1 h5 lk) else .bad) = .ok zs h' := eq
    by_cases hcond : xs.length ≤ lim ∧ noDct h1 lk = true
    case neg => rw [if_neg hcond] at eq1; cases eq1
    rw [if_pos hcond] at eq1
    obtain ⟨hlim, hno⟩ := hcond
    cases lock_no hno lr
    obtain ⟨ls, r2⟩ := lock_step r1 lr
    have er2 := wipe_er ((er.step r s1).step r1 ls) sl1
    have eD1 := offD.keep eD s1
    have off1 := offD.step eD s1
    have vac1 := vac.step r s1
    generalize hf : lcTurn ft1 fc1 fe (wipeE env sl1) = f at eq1
    have offL : Off ρ1 (lockH h1 lk) D := fun i hi => off1 i (by rw [lock_len] at hi; exact hi)
    have vacL : VRs g ρ1 (lockH h1 lk).length H1 ys acc := by rw [lock_len]; exact vac1
    cases zl : lcGo f xs [] (lockH h1 lk) with
    | bad => rw [zl] at eq1; cases eq1
    | ex c fs h'' => rw [zl] at eq1; cases eq1
    | ok zs' h5 =>
      rw [zl] at eq1
      have eq2 : Rs.ok zs' (unlockH h1 h5 lk) = Rs.ok zs h' := eq1
      injection eq2 with e1 e2
      subst e1
      generalize hL : lockH h1 lk = hl at zl ls r2 er2 S1 offL vacL
      refine ⟨fun i m H' => m = xs.length - i ∧ i ≤ xs.length ∧ ∃ ρ' h' ws acc', StpD D ρ1 ρ' hl h' H1 H' ∧ S ρ' h' H' ∧ ER g ρ' h'.length H' (wipeE env sl1) (wipe σ sl1) ∧ Rel g ρ' h' H' ∧ Off ρ' h' D ∧ H' D = some (.lst acc') ∧ VRs g ρ' h'.length H' (ys ++ ws) acc' ∧ ws.length ≤ i ∧ lcGo f (xs.drop i) ws h' = .ok zs' h5,
        ⟨xs.length, rfl, Nat.zero_le _, ρ1, hl, [], acc, (Stp.refl ..).d, S1, er2, r2, offL, eD1, by rw [List.append_nil]; exact vacL, Nat.le_refl _, zl⟩, ?_⟩
      rintro i m H' ⟨rfl, hi', ρ', h', ws, acc', st, S', erI, rl, off, eD', vac', hwl, eq⟩
      by_cases hlt : i < xs.length
      · have hget : xs[i]? = some xs[i] := by simp [hlt]
        have hdrop : xs.drop i = xs[i] :: xs.drop (i + 1) := List.drop_eq_getElem_cons hlt
        rw [hdrop] at eq
        simp only [lcGo] at eq
        refine .inr ⟨J1.go ρ' h' H' i S' rl hlt, fun H'' => ∃ m', m' < xs.length - i ∧ (m' = xs.length - (i + 1) ∧ i + 1 ≤ xs.length ∧ ∃ ρ' h' ws acc', StpD D ρ1 ρ' hl h' H1 H'' ∧ S ρ' h' H'' ∧ ER g ρ' h'.length H'' (wipeE env sl1) (wipe σ sl1) ∧ Rel g ρ' h' H'' ∧ Off ρ' h' D ∧ H'' D = some (.lst acc') ∧ VRs g ρ' h'.length H'' (ys ++ ws) acc' ∧ ws.length ≤ i + 1 ∧ lcGo f (xs.drop (i + 1)) ws h' = .ok zs' h5), fun H'' z => z, fun x H'' y => ?_⟩
        obtain ⟨sy, ry, vy⟩ := J1.yld ρ' h' H' i xs[i] x H'' S' rl hget y
        have eDy := off.keep eD' sy
        have offy := off.step eD' sy
        have hft : f xs[i] h' = lcTurn ft1 fc1 fe (wipeE env sl1) xs[i] h' := by rw [hf]
        have badc : f xs[i] h' = .bad → False := fun zb => by rw [zb] at eq; cases eq
        have exc : ∀ c fs h'', f xs[i] h' = .ex c fs h'' → False := fun c fs h'' zb => by rw [zb] at eq; cases eq
        intro s0 H0 C cl fp
        have Sy := J1.step _ _ _ _ _ _ S' rl sy
        have ery : ER g ρ' h'.length H'' (wipeE env sl1) (wipe σ sl1) := erI.step rl sy
        refine ht1 _ _ (G.blk scope s0 H0 C cl fp) ρ' h' H'' _ _ xs[i] x _ ry ery vy ?_
        cases zt : ft1 xs[i] (wipeE env sl1) h' with
        | bad => exact badc (by rw [hft]; unfold lcTurn; rw [zt]; rfl)
        | ex c fs h'' => exact absurd zt (hx1 _ _ _ _ _ _)
        | ok env2 h2 =>
          intro ρ2 Ha σ2 st2 rl2 era k2
          refine ⟨wipe_same (k2.1.trans (wipe_length _ _)) (fun _ h => h) k2.2, ?_⟩
          intro s0 H0 C cl fp pins s I
          refine hc1 _ _ (G.blk scope s0 H0 C cl fp) ρ2 h2 Ha env2 σ2 _ rl2 era ?_ pins s I
          have eDa := offy.keep eDy st2
          have offa := offy.step eDy st2
          cases zc : fc1 env2 h2 with
          | bad => exact badc (by rw [hft]; unfold lcTurn; rw [zt]; show ((fc1 env2 h2).bind _) = _; rw [zc]; rfl)
          | ex c fs h'' => exact False.elim <| exc c fs h'' (by rw [hft]; unfold lcTurn; rw [zt]; show ((fc1 env2 h2).bind _) = _; rw [zc]; rfl)
          | ok b h3 =>
            intro ρ3 Hb b' st3 rl3 hbb
            cases hbb
            have eDb := offa.keep eDa st3
            have offb := offa.step eDa st3
            have erI3 : ER g ρ3 h3.length Hb (wipeE env sl1) (wipe σ sl1) := ((erI.step rl sy).step ry st2).step rl2 st3
            have S3 := J1.step _ _ _ _ _ _ (J1.step _ _ _ _ _ _ Sy ry st2) rl2 st3
            have stb : StpD D ρ1 ρ3 hl h3 H1 Hb := ((st.trans sy.d).trans st2.d).trans st3.d
            cases b with
            | false =>
              have ez : f xs[i] h' = .ok none h3 := by rw [hft]; unfold lcTurn; rw [zt]; show ((fc1 env2 h2).bind _) = _; rw [zc]; rfl
              rw [ez] at eq
              exact ⟨xs.length - (i + 1), by omega, rfl, hlt, ρ3, h3, ws, acc', stb, S3, erI3, rl3, offb, eDb, ((vac'.step rl sy).step ry st2).step rl2 st3, by omega, eq⟩
            | true =>
              intro s0 H0 C cl fp
              refine he _ _ (G.blk scope s0 H0 C cl fp) ρ3 h3 Hb env2 σ2 _ rl3 (era.step rl2 st3) ?_
              cases ze : fe env2 h3 with
              | bad => exact badc (by rw [hft]; unfold lcTurn; rw [zt]; show ((fc1 env2 h2).bind _) = _; rw [zc]; show ((fe env2 h3).bind _) = _; rw [ze]; rfl)
              | ex c fs h'' => exact False.elim <| exc c fs h'' (by rw [hft]; unfold lcTurn; rw [zt]; show ((fc1 env2 h2).bind _) = _; rw [zc]; show ((fe env2 h3).bind _) = _; rw [ze]; rfl)
              | ok yv h4 =>
                have ez : f xs[i] h' = .ok (some yv) h4 := by rw [hft]; unfold lcTurn; rw [zt]; show ((fc1 env2 h2).bind _) = _; rw [zc]; show ((fe env2 h3).bind _) = _; rw [ze]; rfl
                rw [ez] at eq
                intro ρ4 Hc y4 st4 rl4 vy4
                have eDc := offb.keep eDb st4
                have offc := offb.step eDb st4
                have vac4 := (((vac'.step rl sy).step ry st2).step rl2 st3).step rl3 st4
                have erI4 : ER g ρ4 h4.length (upd Hc D (.lst (acc' ++ [y4]))) (wipeE env sl1) (wipe σ sl1) := (erI3.step rl3 st4).lay eDc True.intro
                have S4 := J1.lay _ _ _ D _ (.lst (acc' ++ [y4])) (J1.step _ _ _ _ _ _ S3 rl3 st4) eDc True.intro
                refine ⟨acc', eDc, ?_, xs.length - (i + 1), by omega, rfl, hlt, ρ4, h4, ws ++ [yv], acc' ++ [y4], (stb.trans st4.d).lay, S4, erI4, rl4.off offc eDc True.intro, offc, upd_same, ?_, by rw [List.length_append, List.length_singleton]; omega, eq⟩
                · rw [← vac'.length, List.length_append]
                  have : lim = 1000000 := rfl
                  show _ < 2 ^ 24
                  omega
                · rw [← List.append_assoc]
                  refine VRs.append (vac4.mono (fun _ _ => rfl) (Nat.le_refl _) (off_seq eDc True.intro)) ?_
                  rw [VRs]
                  exact ⟨_, _, rfl, vy4.mono (fun _ _ => rfl) (Nat.le_refl _) (off_seq eDc True.intro), by rw [VRs]⟩
      · have e : i = xs.length := by omega
        subst e
        refine .inl ⟨J1.stop ρ' h' H' S' rl, ?_⟩
        rw [List.drop_length] at eq
        have eq3 : Rs.ok ws h' = Rs.ok zs' h5 := eq
        injection eq3 with e1 e3
        subst e1 e3
        rw [← hL] at st
        obtain ⟨st4, r4⟩ := unlock_no hno r1 lr off1 st rl
        rw [e2] at st4 r4
        refine k ρ' H' acc' (s1.d.trans st4) r4 (fun i hi => ?_) eD' ?_
        · rw [← e2, unlock_len] at hi
          exact off i hi
        · rw [← e2, unlock_len]
          exact vac'
theorem lc2_read {fi : Fi} {ft : Fg} {fc : Env → Heap → Rs Bool} {fi1 : Fi} {ft1 : Fg} {fc1 : Env → Heap → Rs Bool} {fe : Fe} {sl sl1 : List Nat} {own : List (Str × Nat)} {scope : Scope} {tg it tg1 it1 elt : Expr} {ifs ifs1 : List Expr} (hsl : ∀ i ∈ sl, i ∈ own.map (·.2)) (hx : ∀ v env h c fs h', ft v env h ≠ .ex c fs h') (hx1 : ∀ v env h c fs h', ft1 v env h ≠ .ex c fs h')
    (hi : SoI g lv N sc fi tg it) (ht : SoG g lv N scope sl ft tg) (hc : SoTs g lv N scope fc ifs) (hi1 : SoI g lv N scope fi1 tg1 it1) (ht1 : SoG g lv N scope sl1 ft1 tg1) (hc1 : SoTs g lv N scope fc1 ifs1) (he : SoE g lv N scope fe elt)
    {X : Cx} {W : WX} (G : Good g X N sc W lv) {ρ : Nat → Addr} {h : Heap} {H : Hp} {env : Env} {σ : L2.St} {Q : VK} (r : Rel g ρ h H) (er : ER g ρ h.length H env σ) (q : QR g (VR g) W ρ h H σ (eLc2 fi ft fc fi1 ft1 fc1 fe (own.map (·.2)) sl1 env h) Q) :
    tLc2 (SI X tg it) (bG X scope tg) (bT X scope ifs) (bI X scope tg1 it1) (bG X scope tg1) (bT X scope ifs1) (bE X scope elt) (own.map (·.2)) sl1 σ H (fun v H' => ∃ H4, UnlR X H' H4 ∧ Q v H4) := by
  refine hi X W G ρ h H env σ _ r er ?_
  have q' : QR g (VR g) W ρ h H σ ((fi env h).bind fun src h1 => if src.xs.length ≤ lim then (lc2Go (lc2Turn ft fc fi1 ft1 fc1 fe sl1 (wipeE env (own.map (·.2)))) src.xs [] (lockH h1 src.lk)).bind fun ys h2 => if ys.length ≤ lim then al (unlockH h1 h2 src.lk) (.lst ys) else .bad else .bad) Q := q
  cases z : fi env h with
  | bad => rw [z] at q'; exact q'
  | ex c fs h' => rw [z] at q'; exact q'
  | ok src h1 =>
    rw [z] at q'
    obtain ⟨xs, lk⟩ := src
    intro ρ1 H1 H2 J S s1 r1 lr J1 S1 D hD
    dsimp only at lr J1 S1
    obtain ⟨ls, r2⟩ := lock_step r1 lr
    have q1 : QR g (VR g) W ρ1 h1 H1 σ (if xs.length ≤ lim then (lc2Go (lc2Turn ft fc fi1 ft1 fc1 fe sl1 (wipeE env (own.map (·.2)))) xs [] (lockH h1 lk)).bind fun ys h2 => if ys.length ≤ lim then al (unlockH h1 h2 lk) (.lst ys) else .bad else .bad) Q := QR.step s1 q'
    by_cases hlim : xs.length ≤ lim
    · rw [if_pos hlim] at q1
      have er2 := wipe_er ((er.step r s1).step r1 ls) (own.map (·.2))
      generalize hf : lc2Turn ft fc fi1 ft1 fc1 fe sl1 (wipeE env (own.map (·.2))) = f at q1
      generalize hL : lockH h1 lk = hl at q1 ls r2 er2 S1
      have offD : Off ρ1 hl D := fun i hi => by
        cases zi : hl[i]? with
        | none => exact absurd (List.getElem?_eq_none_iff.mp zi) (by omega)
        | some c => obtain ⟨u, hu⟩ := r2.trk (b := c.1) (c := c.2) zi; exact ne_of_none hu hD
      refine ⟨fun i m H' => m = xs.length - i ∧ i ≤ xs.length ∧ ∃ ρ' h' ys acc, Stp ρ1 ρ' hl h' H2 H' ∧ Rel g ρ' h' H' ∧ Off ρ' h' D ∧ H' D = some (.lst acc) ∧ VRs g ρ' h'.length H' ys acc ∧ lc2Go f xs [] hl = lc2Go f (xs.drop i) ys h',
        ⟨xs.length, rfl, Nat.zero_le _, ρ1, hl, [], [], Stp.fresh r2 hD, r2.fresh hD, offD, upd_same, by rw [VRs], rfl⟩, ?_⟩
      rintro i m H' ⟨rfl, hi', ρ', h', ys, acc, st, rl, off, eD, vac, eq⟩
      have S' := J1.step _ _ _ _ _ _ S1 r2 st
      by_cases hlt : i < xs.length
      · have hget : xs[i]? = some xs[i] := by simp [hlt]
        have hdrop : xs.drop i = xs[i] :: xs.drop (i + 1) := List.drop_eq_getElem_cons hlt
        rw [hdrop] at eq
        simp only [lc2Go] at eq
        by_cases hyl : ys.length ≤ lim
        case neg => rw [if_neg hyl] at eq; rw [eq] at q1; exact q1.elim
        rw [if_pos hyl] at eq
        refine .inr ⟨J1.go ρ' h' H' i S' rl hlt, fun H'' => ∃ m', m' < xs.length - i ∧ (m' = xs.length - (i + 1) ∧ i + 1 ≤ xs.length ∧ ∃ ρ' h' ys acc, Stp ρ1 ρ' hl h' H2 H'' ∧ Rel g ρ' h' H'' ∧ Off ρ' h' D ∧ H'' D = some (.lst acc) ∧ VRs g ρ' h'.length H'' ys acc ∧ lc2Go f xs [] hl = lc2Go f (xs.drop (i + 1)) ys h'), fun H'' z => z, fun x H'' y => ?_⟩
        obtain ⟨sy, ry, vy⟩ := J1.yld ρ' h' H' i xs[i] x H'' S' rl hget y
        have eDy := off.keep eD sy
        have offy := off.step eD sy
        have hft : f xs[i] h' = lc2Turn ft fc fi1 ft1 fc1 fe sl1 (wipeE env (own.map (·.2))) xs[i] h' := by rw [hf]
        have badc : f xs[i] h' = .bad → False := fun zb => by rw [zb] at eq; rw [eq] at q1; exact q1
        have exc : ∀ c fs h'', f xs[i] h' = .ex c fs h'' → False := fun c fs h'' zb => by rw [zb] at eq; rw [eq] at q1; exact q1
        intro s0 H0 C cl fp
        have ery : ER g ρ' h'.length H'' (wipeE env (own.map (·.2))) (wipe σ (own.map (·.2))) := (er2.step r2 st).step rl sy
        refine ht _ _ (G.blk scope s0 H0 C cl fp) ρ' h' H'' _ _ xs[i] x _ ry ery vy ?_
        cases zt : ft xs[i] (wipeE env (own.map (·.2))) h' with
        | bad => exact badc (by rw [hft]; unfold lc2Turn; rw [zt]; rfl)
        | ex c fs h'' => exact absurd zt (hx _ _ _ _ _ _)
        | ok env2 h2 =>
          intro ρ2 Ha σ2 st2 rl2 era k2
          refine ⟨wipe_same (k2.1.trans (wipe_length _ _)) hsl k2.2, ?_⟩
          intro s0 H0 C cl fp pins s I
          refine hc _ _ (G.blk scope s0 H0 C cl fp) ρ2 h2 Ha env2 σ2 _ rl2 era ?_ pins s I
          have eDa := offy.keep eDy st2
          have offa := offy.step eDy st2
          cases zc : fc env2 h2 with
          | bad => exact badc (by rw [hft]; unfold lc2Turn; rw [zt]; show ((fc env2 h2).bind _) = _; rw [zc]; rfl)
          | ex c fs h'' => exact False.elim <| exc c fs h'' (by rw [hft]; unfold lc2Turn; rw [zt]; show ((fc env2 h2).bind _) = _; rw [zc]; rfl)
          | ok b h3 =>
            intro ρ3 Hb b' st3 rl3 hbb
            cases hbb
            have eDb := offa.keep eDa st3
            have offb := offa.step eDa st3
            have stb : Stp ρ1 ρ3 hl h3 H2 Hb := ((st.trans sy).trans st2).trans st3
            have vac3 := ((vac.step rl sy).step ry st2).step rl2 st3
            cases b with
            | false =>
              have ez : f xs[i] h' = .ok [] h3 := by rw [hft]; unfold lc2Turn; rw [zt]; show ((fc env2 h2).bind _) = _; rw [zc]; rfl
              rw [ez] at eq
              have eq : lc2Go f xs [] hl = lc2Go f (List.drop (i + 1) xs) (ys ++ []) h3 := eq
              rw [List.append_nil] at eq
              exact ⟨xs.length - (i + 1), by omega, rfl, hlt, ρ3, h3, ys, acc, stb, rl3, offb, eDb, vac3, eq⟩
            | true =>
              have ez0 : f xs[i] h' = lcIn fi1 ft1 fc1 fe sl1 env2 h3 := by rw [hft]; unfold lc2Turn; rw [zt]; show ((fc env2 h2).bind _) = _; rw [zc]; rfl
              cases zi : lcIn fi1 ft1 fc1 fe sl1 env2 h3 with
              | bad => exact (badc (by rw [ez0, zi])).elim
              | ex c fs h'' => exact (exc c fs h'' (by rw [ez0, zi])).elim
              | ok zs h5 =>
                rw [ez0, zi] at eq
                rw [if_pos rfl]
                refine lc2_in hx1 hi1 ht1 hc1 he G rl3 (era.step rl2 st3) offb eDb vac3 hyl zi fun ρ5 H5 acc5 st5 r5 off5 eD5 vac5 => ?_
                exact ⟨xs.length - (i + 1), by omega, rfl, hlt, ρ5, h5, ys ++ zs, acc5, stb.transD hD st5, r5, off5, eD5, vac5, eq⟩
      · have e : i = xs.length := by omega
        subst e
        refine .inl ⟨J1.stop ρ' h' H' S' rl, ?_⟩
        rw [List.drop_length] at eq
        rw [eq] at q1
        rw [← hL] at st
        obtain ⟨H4, u, st4, r4, sq⟩ := unlock_step r1 lr st rl
        have hD1 : H1 D = none := ls.kep D hD
        have eD4 := unl_off u eD True.intro
        refine ⟨H4, u, ?_⟩
        have q2 : QR g (VR g) W ρ1 h1 H1 σ (if ys.length ≤ lim then al (unlockH h1 h' lk) (.lst ys) else .bad) Q := q1
        by_cases hyl : ys.length ≤ lim
        case neg => rw [if_neg hyl] at q2; exact q2.elim
        rw [if_pos hyl] at q2
        have off4 : Off ρ' (unlockH h1 h' lk) D := fun i hi => off i (by rw [unlock_len] at hi; exact hi)
        refine q2 _ H4 _ (st4.adopt hD1) (r4.adopt off4 ⟨lim_le hyl, acc, eD4, ?_⟩) ?_
        · exact vac.mono (fun j hj => ext_old ρ' D (by rw [unlock_len]; exact hj)) (by rw [unlock_len]; omega) sq
        · rw [VR]
          exact ⟨by simp, by rw [ext_new]⟩
    · rw [if_neg hlim] at q1; exact q1.elim
theorem so_lc2 {fi : Fi} {ft : Fg} {fc : Env → Heap → Rs Bool} {fi1 : Fi} {ft1 : Fg} {fc1 : Env → Heap → Rs Bool} {fe : Fe} {sl sl1 : List Nat} {own : List (Str × Nat)} {scope : Scope} {tg it tg1 it1 elt : Expr} {ifs ifs1 : List Expr} {pos : Pos} (hs : isSet it = false) (hs1 : isSet it1 = false) (hbk : blkC N sc scope own = true) (hsl : ∀ i ∈ sl, i ∈ own.map (·.2)) (hsl1 : ∀ i ∈ sl1, i ∈ own.map (·.2)) (hx : ∀ v env h c fs h', ft v env h ≠ .ex c fs h') (hx1 : ∀ v env h c fs h', ft1 v env h ≠ .ex c fs h')
    (hi : SoI g lv N sc fi tg it) (ht : SoG g lv N scope sl ft tg) (hc : SoTs g lv N scope fc ifs) (hi1 : SoI g lv N scope fi1 tg1 it1) (ht1 : SoG g lv N scope sl1 ft1 tg1) (hc1 : SoTs g lv N scope fc1 ifs1) (he : SoE g lv N scope fe elt) :
    SoE g lv N sc (eLc2 fi ft fc fi1 ft1 fc1 fe (own.map (·.2)) sl1) (.ListComp elt [⟨tg, it, ifs, 0⟩, ⟨tg1, it1, ifs1, 0⟩] scope pos) := by
  intro X W G ρ h H env σ Q r er q
  refine se_unl ?_
  exact (pe_lc2 G.calm G.nd (self_i X tg it) (blk_ok G hbk) hsl1 (bG_ok X scope tg) (bT_ok X scope ifs) (bI_ok X scope tg1 it1) (bG_ok X scope tg1) (bT_ok X scope ifs1) (bE_ok X scope elt) (folded_no hs X.env) (fun env x => folded_no hs1 env x)).se (lc2_read hsl hx hx1 hi ht hc hi1 ht1 hc1 he G r er q)
theorem s_setLc2 {fi : Fi} {ft : Fg} {fc : Env → Heap → Rs Bool} {fi1 : Fi} {ft1 : Fg} {fc1 : Env → Heap → Rs Bool} {fe : Fe} {sl sl1 : List Nat} {own : List (Str × Nat)} {scope : Scope} {tg it tg1 it1 elt : Expr} {ifs ifs1 : List Expr} {i : Nat} {y : Str} {py pos spos : Pos} (hy : N[i]? = some y) (hyl : sc.names.lookup y = some .local)
    (hsw : ∀ env : PySem.Env, ScR env.scope sc → env.scope.kind = .function → swapsWith (.ListComp elt [⟨tg, it, ifs, 0⟩, ⟨tg1, it1, ifs1, 0⟩] scope pos) (some (.Name y py)) spos.line env = pure true)
    (hs : isSet it = false) (hs1 : isSet it1 = false) (hbk : blkC N sc scope own = true) (hsl : ∀ i ∈ sl, i ∈ own.map (·.2)) (hsl1 : ∀ i ∈ sl1, i ∈ own.map (·.2)) (hx : ∀ v env h c fs h', ft v env h ≠ .ex c fs h') (hx1 : ∀ v env h c fs h', ft1 v env h ≠ .ex c fs h')
    (hi : SoI g lv N sc fi tg it) (ht : SoG g lv N scope sl ft tg) (hc : SoTs g lv N scope fc ifs) (hi1 : SoI g lv N scope fi1 tg1 it1) (ht1 : SoG g lv N scope sl1 ft1 tg1) (hc1 : SoTs g lv N scope fc1 ifs1) (he : SoE g lv N scope fe elt) :
    SoS g lv N sc (fun env h => liftS (eLc2 fi ft fc fi1 ft1 fc1 fe (own.map (·.2)) sl1 env h) env fun v h1 => .nx (env.set i (some v)) h1) (.Assign [.Name y py] (.ListComp elt [⟨tg, it, ifs, 0⟩, ⟨tg1, it1, ifs1, 0⟩] scope pos) spos) := by
  intro X W G ρ h H env σ D r er q pins s I
  refine ss_unl (D := D) ?_ pins s I
  have q1 := QS.lift (T := VR g) (σ := σ) r er q
  have q2 : QR g (VR g) W ρ h H σ (eLc2 fi ft fc fi1 ft1 fc1 fe (own.map (·.2)) sl1 env h) (fun v H' => D.nx (σ.set i (some v)) H') := QR.imp q1 fun v H' ⟨ρ1, h1, v', s1, r1, t1, _, q1⟩ => q1 ρ1 H' _ (Stp.refl ..) r1 ((er.step r s1).set t1)
  have z := lc2_read (own := own) hsl hx hx1 hi ht hc hi1 ht1 hc1 he G r er q2
  refine (ps_setLc2 (i := i) G.calm G.nd (by rw [G.hN]; exact hy) (G.hsc.same (by decide) hyl) (hsw X.env G.hsc I.ok.kind) (self_i X tg it) (blk_ok G hbk) hsl1 (bG_ok X scope tg) (bT_ok X scope ifs) (bI_ok X scope tg1 it1) (bG_ok X scope tg1) (bT_ok X scope ifs1) (bE_ok X scope elt) (folded_no hs X.env) (fun env x => folded_no hs1 env x)).se (D := unlD X D) ?_
  exact z
end
end MP
end
section
set_option autoImplicit false
set_option linter.all false
namespace MP
open PySem L2
def sAugI (i : Nat) (sg : Bool) (f : Fe) : Fs := fun env h => match env[i]?.join with
  | some (.int a) => liftS (f env h) env fun v h1 => (match v with
    | .int b => .nx (env.set i (some (.int (if sg then a - b else a + b)))) h1
    | _ => .bad)
  | _ => .bad
section
variable {g : G} {lv : Nat} {N : List Str} {sc : Scope}
theorem s_aug {i : Nat} {x : Str} {px pos : Pos} {f : Fe} {e : Expr} {sg : Bool} (hi : N[i]? = some x) (hx : sc.names.lookup x = some .local) (he : SoE g lv N sc f e) : SoS g lv N sc (sAugI i sg f) (.AugAssign (.Name x px) (if sg then .Sub else .Add) e pos) := by
  intro X W G ρ h H env σ D r er q
  have hl : Loc X.env.scope x := .inl (G.hsc.same (by decide) hx)
  unfold sAugI at q
  cases z : env[i]?.join with
  | none => rw [z] at q; exact q.elim
  | some a =>
    have z1 : env[i]? = some (some a) := by
      cases y : env[i]? with
      | none => rw [y] at z; cases z
      | some o => rw [y] at z; rw [show o = some a from z]
    obtain ⟨xa, e1, t1⟩ := er.val i a z1
    cases a with
    | int a =>
      cases t1.of_int
      rw [z] at q
      have key : tAug i (SE X e) (ipI fun p q => if sg then p - q else p + q) D σ H := by
        refine ⟨_, e1, ?_⟩
        refine he X W G ρ h H env σ _ r er (QR.imp (QS.lift r er q) fun y H1 ⟨ρ1, h1, v, s1, r1, t1, _, q1⟩ => ?_)
        cases v with
        | int b =>
          cases t1.of_int
          exact ⟨a, b, rfl, rfl, q1 ρ1 H1 _ (Stp.refl ..) r1 ((er.step r s1).set VR.int)⟩
        | _ => exact q1.elim
      cases sg with
      | false => exact (ps_aug (i := i) (op := .Add) G.nd (by rw [G.hN]; exact hi) hl (self_e X e) (by simpa using ip_add) (.inr (G.hsc.same (by decide) hx))).se key
      | true => exact (ps_aug (i := i) (op := .Sub) G.nd (by rw [G.hN]; exact hi) hl (self_e X e) (by simpa using ip_sub) (.inr (G.hsc.same (by decide) hx))).se key
    | _ => rw [z] at q; exact q.elim
end
end MP
end
section
set_option autoImplicit false
set_option linter.all false
namespace MP
open PySem L2 PySem.Spec PyProof.Rows
abbrev SuT := Addr → Value → Option Addr → TS
/-- what the clauses ask, one behind the other; each has its slot -/
def wAsM (K : PySem.W.Frag) (Wo : WX) (D : Ends) : List (Value × Nat × SuT) → WX
  | [] => Wo
  | (c, i, ts) :: r => wAs K c i ts (wAsM K Wo D r) D
inductive HdsAs (X : Cx) : List ExceptHandler → List (Value × Nat × SuT) → Prop
  | nil : HdsAs X [] []
  | cons {x n : Str} {c : Value} {i : Nat} {ts : SuT} {b₀ : Stmt} {su : List Stmt} {np po : Pos} {hs : List ExceptHandler} {l : List (Value × Nat × SuT)} (hN : X.N[i]? = some n) (hk : X.env.kindOf n = some .local) (hc : Names X x c)
      (hsu : ∀ (a : Addr) (oe : Obj) (cls : Value) (d : Option Addr) (pn : List (Addr × Obj)), Zc cls d oe → (∃ vs, oe.data = .fields vs) → PSs (X.suite a ((a, oe) :: pn)) (b₀ :: su) (ts a cls d)) (r : HdsAs X hs l) :
      HdsAs X (.ExceptHandler (some (.Name x np)) (some n) (b₀ :: su) po :: hs) ((c, i, ts) :: l)
section
variable {X : Cx} {body : List Stmt} {k₀ : ExceptHandler} {ks : List ExceptHandler} {l : List (Value × Nat × SuT)} {pos : Pos} {tb : WX → TS} {Wo : WX}
theorem ps_try_asM (st : X.stack = X.env :: X.outer) (fr : X.env.frame = some X.env.locals) (nd : X.N.Nodup) (tk : Takes X Wo)
    (hb : ∀ (W : WX) (pn : List (Addr × Obj)) (xe : Value → Shared → Prop), Takes (X.tr pn xe) W → PassesOwn (model X.prog X.w) X.A X.env xe → PSs (X.tr pn xe) body (tb W))
    (hh : HdsAs X (k₀ :: ks) l) : PS X (.Try body (k₀ :: ks) [] [] pos) (fun D σ H => tb (wAsM X.K Wo D l) D σ H) := by
  refine ⟨fun ps s σ H D I h => ?_⟩
  have ok := I.ok
  have afr : X.A.frames = some (X.env :: X.outer) := ok.frames.trans (by rw [st])
  refine wpAny_Try_except (wpAny_mono ((hb (wAsM X.K Wo D l) (X.pn ++ ps) (fun z s1 => wpAny (model X.prog X.w) X.A (noteFrame z X.env) (fun _ s2 => wpAny (model X.prog X.w) X.A (setFlight z none) (fun _ s3 =>
    wpAny (model X.prog X.w) X.A (handleBy z X.env (k₀ :: ks)) (SP X ps D) X.xe s3) X.xe s2) X.xe s1) (fun u t xx => ?_) PassesOwn.looking).run [] s σ H D (I.toTry _) h) (fun f s1 hf => ?_) fun _ _ z => z)
  · obtain ⟨a, B, sI, ps', τ, G, cls, d, rfl, JT, nb, up, sky, na, os, ag, w⟩ := xx
    have J : Inv X ps τ G sI := JT.ofTry ok
    refine Sky.land Zc.steady afr fr (show Sky B (X.env :: X.outer) a (Zc cls d) X.env.locals t.heap by rw [← st]; exact sky) fun g3 fl up3 => ?_
    have J3 : Inv X ps τ G { t with heap := g3 } := J.landed nb fl.1 (up.trans up3) os ag
    obtain ⟨o3, v3, ho3, hz3, hd3⟩ := fl.there
    have nfr : a ∉ frs (X.env :: X.outer) := fun hm => by
      obtain ⟨_, o', e', hnf⟩ := fl.2.2.1.mem hm
      rw [ho3] at e'
      cases e'
      exact hnf _ hd3
    have nL : a ≠ X.env.locals := fun z => nfr (List.mem_filterMap.mpr ⟨X.env, List.mem_cons_self, by rw [fr, z]⟩)
    have nF : a ∉ X.fs := fun hm => (List.mem_filterMap.mp hm).elim fun z q => nfr (List.mem_filterMap.mpr ⟨z, List.mem_cons_of_mem _ q.1, q.2⟩)
    have S3 := J3.suite ho3 hd3 na nL nF
    have go : ∀ {ks' : List ExceptHandler} {l' : List (Value × Nat × SuT)}, HdsAs X ks' l' → wAsM X.K Wo D l' cls d τ G → wpAny (model X.prog X.w) X.A (handleBy (.ref a) X.env ks') (SP X ps D) X.xe { t with heap := g3 } := by
      intro ks' l' hk
      induction hk with
      | nil =>
        intro w
        refine wpAny_handleBy_nil ?_
        obtain ⟨_, _, _, o4, _, T, _, _, q1, _, q2, q3, _⟩ := id fl
        unfold PySem.passOn
        refine wpAny_bind (wpAny_field q1 q2 q3 ?_)
        rw [if_neg (by simp : ¬ ((Value.ref T == Value.none) = true))]
        have fin : wpAny (model X.prog X.w) X.A (setFlight (.ref a) X.env.frame) (fun _ z => wpAny (model X.prog X.w) X.A (throw (.ref a) : Sem Flow) (SP X ps D) X.xe z) X.xe { t with heap := g3 } := by
          rw [fr]
          exact HandSPX.setFlight_upZ fl fun g4 hg up4 => wpAny_throw (tk _ _ ⟨a, B, sI, ps, τ, G, cls, d, rfl, J, nb, (up.trans up3).trans up4, .inr (.inr (by rw [st]; exact hg)), na, os, ag, w⟩)
        first | exact wpAny_bind (wpAny_pure (wpAny_bind fin)) | exact wpAny_bind fin
      | @cons x n c i ts b₀ su np po ks2 l2 hN hk hc hsu r ih =>
        intro w
        obtain ⟨b, hb1, hy, hn⟩ := w
        refine wpAny_handleBy_cons (codeAny_handlers_test ?_) (by intro q; cases q)
        have LM := PySem.W.exm_one (M := model X.prog X.w) J3.kIn (fun A Q E s k q => wpAny_typeOf_ref (k _ _ ho3) (by rw [hz3.1]; exact q) : PySem.W.Looks (model X.prog X.w) g3 (typeOf (.ref a)) cls) hb1
        have ask : ∀ {Q E : Value → Shared → Prop}, Q c { t with heap := g3 } → wpAny (model X.prog X.w) (X.A.mark (some (.ref a))) (eval (.Name x np) X.env) Q E { t with heap := g3 } := fun {Q E} q => by
          obtain ⟨y1, y2, y3 | ⟨y3, y4, y5⟩⟩ := hc
          · exact ld_glob (X := X.suite a ((a, o3) :: (X.pn ++ ps))) S3 y1 y3 q y2
          · exact ld_blt (X := X.suite a ((a, o3) :: (X.pn ++ ps))) S3 y1 y3 y4 q y5 y2
        refine ask (LM.here ?_)
        cases b with
        | false => exact ih (hn rfl)
        | true =>
          refine codeAny_handlers_suite_as (HandSPX.lands_againZ fl fun g4 fl4 up4 => ?_)
          have J4 : Inv X ps τ G { t with heap := g4 } := J.landed nb fl4.1 ((up.trans up3).trans up4) os ag
          obtain ⟨o4, _, ho4, hz4, hd4⟩ := fl4.there
          refine store_ok (X := X.suite a ((a, o4) :: (X.pn ++ ps))) (v := .ref a) (J4.suite ho4 hd4 na nL nF) nd hN (.inl hk) rfl (fun s5 S5 => ?_) (.inr hk)
          refine wpAny_mono ((hsu a o4 cls d (X.pn ++ ps) hz4 ⟨_, hd4⟩).run [] s5 _ G _ S5 (hy rfl a na)) (fun f s6 hf => ?_) fun _ _ z => z.elim
          have out : ∀ {τ6 : L2.St} {G6 : Hp} {Q : Shared → Prop}, Inv (X.suite a ((a, o4) :: (X.pn ++ ps))) [] τ6 G6 s6 → (∀ s7, Inv X ps (τ6.set i none) G6 s7 → Q s7) → wpAny (model X.prog X.w) X.A (do bindName X.env n .none; unbindBehindTheSuite X.env n po) (fun _ s7 => Q s7) X.xe s6 := fun {τ6 G6 Q} z q => gone_ok (z.unsuite ok) nd hN hk q
          cases f with
          | ret u => obtain ⟨v, _, _, z, y1, y2⟩ := hf; exact out z fun s7 J7 => ⟨v, _, _, J7, y1, y2⟩
          | next => obtain ⟨_, _, z, y⟩ := hf; exact out z fun s7 J7 => ⟨_, _, J7, y⟩
          | brk => obtain ⟨_, _, z, y⟩ := hf; exact out z fun s7 J7 => ⟨_, _, J7, y⟩
          | cont => obtain ⟨_, _, z, y⟩ := hf; exact out z fun s7 J7 => ⟨_, _, J7, y⟩
    exact go hh w
  · cases f with
    | ret u => obtain ⟨v, _, _, z, y1, y2⟩ := hf; exact ⟨v, _, _, z.ofTry ok, y1, y2⟩
    | next => obtain ⟨_, _, z, y⟩ := hf; exact wpAny_execs_nil ⟨_, _, z.ofTry ok, y⟩
    | brk => obtain ⟨_, _, z, y⟩ := hf; exact ⟨_, _, z.ofTry ok, y⟩
    | cont => obtain ⟨_, _, z, y⟩ := hf; exact ⟨_, _, z.ofTry ok, y⟩
end
section
variable {g : G} {lv : Nat} {N : List Str} {sc : Scope}
def hdM (xm : Nat → Nat → Option Bool) (env : Env) (c' : Nat) (fs : List (Str × Val)) (h : Heap) : List (Nat × Nat × Fh) → SR
  | [] => .ex env c' fs h
  | (c, i, su) :: r => (match xm c' c with
    | some true => if c' = c ∧ i < env.length then goneS i (su fs (env.set i none) h) else .bad
    | some false => hdM xm env c' fs h r
    | none => .bad)
def sTryM (fb : Fs) (xm : Nat → Nat → Option Bool) (l : List (Nat × Nat × Fh)) : Fs := fun env h => match fb env h with
  | .ex env' c' fs h' => hdM xm env' c' fs h' l
  | r => r
/-- a clause with a name -/
inductive HdOk (g : G) (lv : Nat) (N : List Str) (sc : Scope) : List (Nat × Nat × Fh) → List ExceptHandler → Prop
  | nil : HdOk g lv N sc [] []
  | cons {c i : Nat} {su : Fh} {x n : Str} {b₀ : Stmt} {ss : List Stmt} {np po : Pos} {l : List (Nat × Nat × Fh)} {hs : List ExceptHandler} (hx : sc.names.lookup x = some .globalImplicit) (hdb : (x == ("__debug__" : Str)) = false) (hm : g.mg x = some (.ref (g.C c)))
      (hN : N[i]? = some n) (hn : sc.names.lookup n = some .local) (hsu : SoHS g lv N sc c i su (b₀ :: ss)) (r : HdOk g lv N sc l hs) : HdOk g lv N sc ((c, i, su) :: l) (.ExceptHandler (some (.Name x np)) (some n) (b₀ :: ss) po :: hs)
variable {xm : Nat → Nat → Option Bool}
theorem hds_of (M : XmOk g xm) {X : Cx} {W : WX} (G : Good g X N sc W lv) {l : List (Nat × Nat × Fh)} {hs : List ExceptHandler} (hh : HdOk g lv N sc l hs) : ∃ L, HdsAs X hs L ∧
    ∀ (D : Ends) (ρ : Nat → Addr) (h : Heap) (H : Hp) (env' : Env) (c' : Nat) (fs : List (Str × Val)) (h' : Heap), QS g W ρ h H (hdM xm env' c' fs h' l) D → ∀ (ρ' : Nat → Addr) (H' : Hp) (σ' : L2.St) (d : Addr) (xs : List (Str × L2.V)), Stp ρ ρ' h h' H H' → Rel g ρ' h' H' → ER g ρ' h'.length H' env' σ' → H' d = some (.xd xs) → KR g ρ' h'.length H' fs xs → wAsM X.K W D L (.ref (g.C c')) (some d) σ' H' := by
  induction hh with
  | nil => exact ⟨[], .nil, fun D ρ h H env' c' fs h' q ρ' H' σ' d xs st rl er hd kr => q ρ' H' σ' d xs st rl er hd kr⟩
  | @cons c i su x n b₀ ss np po l hs hx hdb hm hN hn hsu r ih =>
    obtain ⟨L, hL, w⟩ := ih
    have hl := G.hsc.same (by decide) hn
    refine ⟨(.ref (g.C c), i, fun a cls d => fun D σ H => ∀ (oe : Obj) (pn : List (Addr × Obj)), Zc cls d oe → (∃ vs, oe.data = .fields vs) → SSs (X.suite a ((a, oe) :: pn)) (b₀ :: ss) D σ H) :: L, .cons (by rw [G.hN]; exact hN) hl ⟨G.gl hx, hdb, .inl (by rw [G.hmg]; exact hm)⟩ (fun a oe cls d pn hz hd => ⟨fun pins s σ H D I h => h oe pn hz hd pins s I⟩) hL, ?_⟩
    intro D ρ h H env' c' fs h' q ρ' H' σ' d xs st rl er hd kr
    unfold hdM at q
    cases zx : xm c' c with
    | none => rw [zx] at q; exact q.elim
    | some b =>
      have me := M c' c b zx
      rw [zx] at q
      cases b with
      | false => exact ⟨false, by rw [G.hK]; exact me, fun e => Bool.noConfusion e, fun _ => w D ρ h H env' c' fs h' q ρ' H' σ' d xs st rl er hd kr⟩
      | true =>
        dsimp only at q
        by_cases hc : c' = c ∧ i < env'.length
        · rw [if_pos hc] at q
          obtain ⟨rfl, hi⟩ := hc
          refine ⟨true, by rw [G.hK]; exact me, fun _ a na oe pn hz hdt => ?_, fun e => Bool.noConfusion e⟩
          have q2 := QS.step st q
          refine hsu X W G fs a d oe pn ρ' h' H' (env'.set i none) (σ'.set i (some (.ref a))) ⟨rl, er.wipe i _, List.getElem?_set_self (by rw [← er.len]; exact hi), hz, hdt, xs, hd, kr⟩ _ ?_
          cases zs : su fs (env'.set i none) h' with
          | nx e2 h2 => rw [zs] at q2; exact fun ρ2 H2 σ2 s2 r2 er2 => q2 ρ2 H2 _ s2 r2 (er2.wipe i none)
          | bk e2 h2 => rw [zs] at q2; exact fun ρ2 H2 σ2 s2 r2 er2 => q2 ρ2 H2 _ s2 r2 (er2.wipe i none)
          | ct e2 h2 => rw [zs] at q2; exact fun ρ2 H2 σ2 s2 r2 er2 => q2 ρ2 H2 _ s2 r2 (er2.wipe i none)
          | rt v h2 => rw [zs] at q2; exact q2
          | ex e2 c2 f2 h2 => rw [zs] at q2; exact q2.elim
          | bad => rw [zs] at q2; exact q2.elim
        · rw [if_neg hc] at q; exact q.elim
theorem s_tryM {fb : Fs} {l : List (Nat × Nat × Fh)} {body : List Stmt} {k₀ : ExceptHandler} {ks : List ExceptHandler} {pos : Pos} (M : XmOk g xm) (hb : SoSs g lv N sc fb body) (hh : HdOk g lv N sc l (k₀ :: ks)) : SoSF g lv N sc (sTryM fb xm l) (.Try body (k₀ :: ks) [] [] pos) := by
  intro X W G hs hf ρ h H env σ D r er q
  obtain ⟨L, hL, w⟩ := hds_of M G hh
  refine (ps_try_asM (Wo := W) (tb := fun W' => fun D σ H => ∀ (pn : List (Addr × Obj)) (xe : Value → Shared → Prop), Takes (X.tr pn xe) W' → PassesOwn (model X.prog X.w) X.A X.env xe → SSs (X.tr pn xe) body D σ H)
    hs hf G.nd G.tk (fun W' pn xe tk po => ⟨fun pins s σ H D I h => h pn xe tk po pins s I⟩) hL).se ?_
  intro pn xe tk po
  refine hb (X.tr pn xe) _ ⟨G.hP, G.hw, G.hK, G.hmg, G.hbase, G.hN, G.nd, G.hsc, G.calm, G.room, tk, po, G.cell⟩ ρ h H env σ D r er ?_
  have q' : QS g W ρ h H (match fb env h with
    | .ex env' c' fs h' => hdM xm env' c' fs h' l
    | r => r) D := q
  cases z : fb env h with
  | nx env' h' => rw [z] at q'; exact q'
  | rt v h' => rw [z] at q'; exact q'
  | bk v h' => rw [z] at q'; exact q'
  | ct v h' => rw [z] at q'; exact q'
  | bad => rw [z] at q'; exact q'
  | ex env' c' fs h' =>
    rw [z] at q'
    exact fun ρ' H' σ' d xs st rl er' hd kr => w D ρ h H env' c' fs h' q' ρ' H' σ' d xs st rl er' hd kr
end
end MP
end
section
set_option autoImplicit false
set_option Elab.async false
set_option linter.all false
set_option maxRecDepth 100000
namespace GB
open PySem PySem.SeqAt
open AutoSeq1 (wpAny_loadPart')
open MeetsSeq MeetsSeq2 MeetsSeq3 SeqRoads2
section
variable {prog : Program} {w : World} {A : Around} {R : Result → Shared → Prop}
/-- both lists can be read, N items each -/
def LAt (l b : Addr) (N : Nat) (s : Shared) : Prop := ∃ (items items2 : Array Value) (n n2 : Nat), s.heap.get? l = some { cls := .type "list", data := .seq items n } ∧ s.heap.get? b = some { cls := .type "list", data := .seq items2 n2 } ∧ items.size = N ∧ items2.size = N
/-- at each turn the two lists are read anew: N items each; two items are compared, and it goes on if they are equal -/
def ListB (prog : Program) (w : World) (A : Around) (E : Value → Shared → Prop) (l b : Addr) (N : Nat) (I : Nat → Shared → Prop) (Fl : Shared → Prop) : Prop :=
  ∀ i s, I i s → ∃ (items items2 : Array Value) (n n2 : Nat), s.heap.get? l = some { cls := .type "list", data := .seq items n } ∧ s.heap.get? b = some { cls := .type "list", data := .seq items2 n2 } ∧ items.size = N ∧ items2.size = N ∧
    ∀ (h1 : i < items.size) (h2 : i < items2.size), wpAny (model prog w) A.in1 (eqBool items[i] items2[i]) (fun r s' => if r = true then I (i + 1) s' else (LAt l b N s' ∧ Fl s')) E s
theorem eq_loopB (l b : Addr) (N : Nat) (I : Nat → Shared → Prop) (Fl : Shared → Prop) (hl : ListB prog w A (fun e s' => R (.error e) s') l b N I Fl)
    (fin : ∀ s, I N s → R (.ok (.ret (.bool true))) s) (fl : ∀ s, Fl s → R (.ok (.ret (.bool false))) s) (k : Nat) :
    ∀ i : Nat, N - i = k → i ≤ N → ∀ s, I i s →
      wpAny (model prog w) A.in1 (Builtin.«list.__eq__.loop» ⟨[.ref l, .ref b, rawInt i, rawInt 2], []⟩) (GQ.FinOf prog w A R) (fun e s' => R (.error e) s') s := by
  induction k with
  | zero =>
    intro i hk hi s h
    obtain ⟨items, items2, n, n2, hl1, hb1, hs1, hs2, _⟩ := hl _ _ h
    have hi' : i = N := by omega
    have hR : R (.ok (.ret (.bool true))) s := fin s (hi' ▸ h)
    obtain ⟨hp, g, d, tk, os⟩ := s
    wp_walk using wpAny_loadPart' hl1, wpAny_loadPart' hb1
    have hi1 : items[((i : Nat) : Int).toNat]? = none := by simp; omega
    have hi2 : items2[((i : Nat) : Int).toNat]? = none := by simp; omega
    rw [hi1, hi2]
    wp_walk using wpAny_loadPart' hl1, wpAny_loadPart' hb1
    show R (.ok (.ret (.bool (items.size == items2.size)))) _
    rw [hs1, hs2]
    simpa using hR
  | succ k ih =>
    intro i hk hi s h
    obtain ⟨items, items2, n, n2, hl1, hb1, hs1, hs2, turn⟩ := hl _ _ h
    have hlt : i < items.size := by omega
    have hlt2 : i < items2.size := by omega
    have ht := turn hlt hlt2
    obtain ⟨hp, g, d, tk, os⟩ := s
    wp_walk using wpAny_loadPart' hl1, wpAny_loadPart' hb1
    have hi1 : items[((i : Nat) : Int).toNat]? = some items[i] := by simp [hlt]
    have hi2 : items2[((i : Nat) : Int).toNat]? = some items2[i] := by simp [hlt2]
    have hc : ((i : Int) + 1) = ((i + 1 : Nat) : Int) := by omega
    rw [hi1, hi2]
    refine wpAny_bind (wpAny_mono ht (fun r s2 h2 => ?_) fun _ _ x => x)
    cases r with
    | true =>
      rw [if_pos rfl] at h2
      have hrec := ih (i + 1) (by omega) (by omega) s2 h2
      obtain ⟨hp2, g2, d2, tk2, os2⟩ := s2
      wp_walk
      rw [hc]
      exact ⟨plainId_quiet plain_eq_loop _, codeAny_builtin entry_eq_loop (by
        rw [Around.under_plainId plain_eq_loop _]
        exact hrec)⟩
    | false =>
      rw [if_neg Bool.false_ne_true] at h2
      obtain ⟨⟨it3, it4, n3, n4, hl3, hb3, hs3, hs4⟩, hF⟩ := h2
      have hR := fl _ hF
      obtain ⟨hp2, g2, d2, tk2, os2⟩ := s2
      wp_walk using wpAny_loadPart' hl3, wpAny_loadPart' hb3
      have hi3 : it3[((i : Nat) : Int).toNat]? = some (it3[i]'(by omega)) := by
        have : i < it3.size := by omega
        simp [this]
      have hi4 : it4[((i : Nat) : Int).toNat]? = some (it4[i]'(by omega)) := by
        have : i < it4.size := by omega
        simp [this]
      rw [hi3, hi4]
      wp_walk
      exact hR
theorem list_eqB (l b : Addr) (N : Nat) (I : Nat → Shared → Prop) (Fl : Shared → Prop) (hl : ListB prog w A (fun e s' => R (.error e) s') l b N I Fl)
    (fin : ∀ s, I N s → R (.ok (.ret (.bool true))) s) (fl : ∀ s, Fl s → R (.ok (.ret (.bool false))) s) {s : Shared} (h : I 0 s) :
    wpAny (model prog w) A.in1 (Builtin.«list.__eq__» ⟨[.ref l, .ref b], []⟩) (GQ.FinOf prog w A R) (fun e s' => R (.error e) s') s := by
  obtain ⟨items, items2, n, n2, hl1, hb1, hs1, hs2, _⟩ := hl _ _ h
  have hrec := eq_loopB (A := A) (R := R) l b N I Fl hl fin fl _ 0 rfl (Nat.zero_le _) s h
  obtain ⟨hp, g, d, tk, os⟩ := s
  have f3 := AutoSeq1.sub_list_list
  have hne : ¬ (items.size != items2.size) = true := by simp [hs1, hs2]
  wp_walk using wpAny_loadPart' hl1, wpAny_loadPart' hb1
  exact ⟨plainId_quiet plain_eq_loop _, codeAny_builtin entry_eq_loop (by
    rw [Around.under_plainId plain_eq_loop _]
    exact hrec)⟩
theorem tuple_eqB (l b : Addr) (items items2 : Array Value) (n n2 : Nat) (dd dd2 : Option Addr) (sl sl2 : Array (Option Value)) (I : Nat → Shared → Prop) (Fl : Shared → Prop)
    (turn : ∀ i (h1 : i < items.size) (h2 : i < items2.size) s, I i s → wpAny (model prog w) A.in1 (eqBool items[i] items2[i]) (fun r s' => if r = true then I (i + 1) s' else Fl s') (fun e s' => R (.error e) s') s)
    (fin : ∀ s, I (min items.size items2.size) s → R (.ok (.ret (.bool (items.size == items2.size)))) s) (fl : ∀ s, Fl s → R (.ok (.ret (.bool false))) s) {s : Shared} (hl1 : s.heap.get? l = some { cls := .type "tuple", dict := dd, data := .seq items n, slots := sl }) (hb1 : s.heap.get? b = some { cls := .type "tuple", dict := dd2, data := .seq items2 n2, slots := sl2 }) (h : I 0 s) :
    wpAny (model prog w) A.in1 (Builtin.«tuple.__eq__» ⟨[.ref l, .ref b], []⟩) (GQ.FinOf prog w A R) (fun e s' => R (.error e) s') s := by
  have f2 := AutoSeq1.sub_tuple_tuple
  have hZ : (items.toList.zip items2.toList).length = min items.size items2.size := by simp
  have h0 := h
  obtain ⟨hp, g, d, tk, os⟩ := s
  wp_walk using wpAny_loadPart' hl1, wpAny_loadPart' hb1, wpAny_forIn_list _ (fun rest b s' => (b.1 = none ∧ ∃ i, rest = (items.toList.zip items2.toList).drop i ∧ i ≤ min items.size items2.size ∧ I i s') ∨ (rest = [] ∧ b.1 = some (.done (.ret (.bool false))) ∧ R (.ok (.ret (.bool false))) s')) _
  case turn =>
    rintro ⟨y, x⟩ rest b s' (⟨hb', i, hz, hi, hI⟩ | ⟨hz, _⟩)
    · have hlt : i < (items.toList.zip items2.toList).length := by
        rcases Nat.lt_or_ge i (items.toList.zip items2.toList).length with h' | h'
        · exact h'
        · rw [List.drop_of_length_le h'] at hz; cases hz
      have h1 : i < items.size := by omega
      have h2 : i < items2.size := by omega
      rw [List.drop_eq_getElem_cons hlt] at hz
      injection hz with hyx hrest
      have hy : y = items[i] := by have := congrArg Prod.fst hyx; simpa using this
      have hx : x = items2[i] := by have := congrArg Prod.snd hyx; simpa using this
      subst hy hx
      refine wpAny_bind (wpAny_mono (turn i h1 h2 s' hI) (fun r s2 q2 => ?_) fun _ _ x => x)
      cases r with
      | true =>
        rw [if_pos rfl] at q2
        wp_walk
        exact .inl ⟨rfl, i + 1, hrest, by omega, q2⟩
      | false =>
        rw [if_neg Bool.false_ne_true] at q2
        wp_walk
        exact fl _ q2
    · cases hz
  case fin =>
    rintro ⟨b1, b2⟩ s' (⟨hb', i, hz, hi, hI⟩ | ⟨_, hb', hR⟩)
    · simp only at hb'
      subst hb'
      have hge : min items.size items2.size ≤ i := by
        rcases Nat.lt_or_ge i (items.toList.zip items2.toList).length with h' | h'
        · rw [List.drop_eq_getElem_cons h'] at hz; cases hz
        · exact hZ ▸ h'
      have hi' : i = min items.size items2.size := by omega
      have hR : R (.ok (.ret (.bool (items.size == items2.size)))) s' := fin s' (hi' ▸ hI)
      wp_walk
      exact hR
    · simp only at hb'
      subst hb'
      wp_walk
      exact hR
  case h =>
    exact .inl ⟨rfl, 0, rfl, Nat.zero_le _, h0⟩
theorem ne_loopB (l b : Addr) (N : Nat) (I : Nat → Shared → Prop) (Fl : Shared → Prop) (hl : ListB prog w A (fun e s' => R (.error e) s') l b N I Fl)
    (fin : ∀ s, I N s → R (.ok (.ret (.bool false))) s) (fl : ∀ s, Fl s → R (.ok (.ret (.bool true))) s) (k : Nat) :
    ∀ i : Nat, N - i = k → i ≤ N → ∀ s, I i s →
      wpAny (model prog w) A.in1 (Builtin.«list.__eq__.loop» ⟨[.ref l, .ref b, rawInt i, rawInt 3], []⟩) (GQ.FinOf prog w A R) (fun e s' => R (.error e) s') s := by
  induction k with
  | zero =>
    intro i hk hi s h
    obtain ⟨items, items2, n, n2, hl1, hb1, hs1, hs2, _⟩ := hl _ _ h
    have hi' : i = N := by omega
    have hR : R (.ok (.ret (.bool false))) s := fin s (hi' ▸ h)
    obtain ⟨hp, g, d, tk, os⟩ := s
    wp_walk using wpAny_loadPart' hl1, wpAny_loadPart' hb1
    have hi1 : items[((i : Nat) : Int).toNat]? = none := by simp; omega
    have hi2 : items2[((i : Nat) : Int).toNat]? = none := by simp; omega
    rw [hi1, hi2]
    wp_walk using wpAny_loadPart' hl1, wpAny_loadPart' hb1
    show R (.ok (.ret (.bool (items.size != items2.size)))) _
    rw [hs1, hs2]
    simpa using hR
  | succ k ih =>
    intro i hk hi s h
    obtain ⟨items, items2, n, n2, hl1, hb1, hs1, hs2, turn⟩ := hl _ _ h
    have hlt : i < items.size := by omega
    have hlt2 : i < items2.size := by omega
    have ht := turn hlt hlt2
    obtain ⟨hp, g, d, tk, os⟩ := s
    wp_walk using wpAny_loadPart' hl1, wpAny_loadPart' hb1
    have hi1 : items[((i : Nat) : Int).toNat]? = some items[i] := by simp [hlt]
    have hi2 : items2[((i : Nat) : Int).toNat]? = some items2[i] := by simp [hlt2]
    have hc : ((i : Int) + 1) = ((i + 1 : Nat) : Int) := by omega
    rw [hi1, hi2]
    refine wpAny_bind (wpAny_mono ht (fun r s2 h2 => ?_) fun _ _ x => x)
    cases r with
    | true =>
      rw [if_pos rfl] at h2
      have hrec := ih (i + 1) (by omega) (by omega) s2 h2
      obtain ⟨hp2, g2, d2, tk2, os2⟩ := s2
      wp_walk
      rw [hc]
      exact ⟨plainId_quiet plain_eq_loop _, codeAny_builtin entry_eq_loop (by
        rw [Around.under_plainId plain_eq_loop _]
        exact hrec)⟩
    | false =>
      rw [if_neg Bool.false_ne_true] at h2
      obtain ⟨⟨it3, it4, n3, n4, hl3, hb3, hs3, hs4⟩, hF⟩ := h2
      have hR := fl _ hF
      obtain ⟨hp2, g2, d2, tk2, os2⟩ := s2
      wp_walk using wpAny_loadPart' hl3, wpAny_loadPart' hb3
      have hi3 : it3[((i : Nat) : Int).toNat]? = some (it3[i]'(by omega)) := by
        have : i < it3.size := by omega
        simp [this]
      have hi4 : it4[((i : Nat) : Int).toNat]? = some (it4[i]'(by omega)) := by
        have : i < it4.size := by omega
        simp [this]
      rw [hi3, hi4]
      wp_walk
      exact hR
theorem list_neB (l b : Addr) (N : Nat) (I : Nat → Shared → Prop) (Fl : Shared → Prop) (hl : ListB prog w A (fun e s' => R (.error e) s') l b N I Fl)
    (fin : ∀ s, I N s → R (.ok (.ret (.bool false))) s) (fl : ∀ s, Fl s → R (.ok (.ret (.bool true))) s) {s : Shared} (h : I 0 s) :
    wpAny (model prog w) A.in1 (Builtin.«list.__ne__» ⟨[.ref l, .ref b], []⟩) (GQ.FinOf prog w A R) (fun e s' => R (.error e) s') s := by
  obtain ⟨items, items2, n, n2, hl1, hb1, hs1, hs2, _⟩ := hl _ _ h
  have hrec := ne_loopB (A := A) (R := R) l b N I Fl hl fin fl _ 0 rfl (Nat.zero_le _) s h
  obtain ⟨hp, g, d, tk, os⟩ := s
  have f3 := AutoSeq1.sub_list_list
  have hne : ¬ (items.size != items2.size) = true := by simp [hs1, hs2]
  wp_walk using wpAny_loadPart' hl1, wpAny_loadPart' hb1
  exact ⟨plainId_quiet plain_eq_loop _, codeAny_builtin entry_eq_loop (by
    rw [Around.under_plainId plain_eq_loop _]
    exact hrec)⟩
theorem tuple_neB (l b : Addr) (items items2 : Array Value) (n n2 : Nat) (dd dd2 : Option Addr) (sl sl2 : Array (Option Value)) (I : Nat → Shared → Prop) (Fl : Shared → Prop)
    (turn : ∀ i (h1 : i < items.size) (h2 : i < items2.size) s, I i s → wpAny (model prog w) A.in1 (eqBool items[i] items2[i]) (fun r s' => if r = true then I (i + 1) s' else Fl s') (fun e s' => R (.error e) s') s)
    (fin : ∀ s, I (min items.size items2.size) s → R (.ok (.ret (.bool (items.size != items2.size)))) s) (fl : ∀ s, Fl s → R (.ok (.ret (.bool true))) s) {s : Shared} (hl1 : s.heap.get? l = some { cls := .type "tuple", dict := dd, data := .seq items n, slots := sl }) (hb1 : s.heap.get? b = some { cls := .type "tuple", dict := dd2, data := .seq items2 n2, slots := sl2 }) (h : I 0 s) :
    wpAny (model prog w) A.in1 (Builtin.«tuple.__ne__» ⟨[.ref l, .ref b], []⟩) (GQ.FinOf prog w A R) (fun e s' => R (.error e) s') s := by
  have f2 := AutoSeq1.sub_tuple_tuple
  have hZ : (items.toList.zip items2.toList).length = min items.size items2.size := by simp
  have h0 := h
  obtain ⟨hp, g, d, tk, os⟩ := s
  wp_walk using wpAny_loadPart' hl1, wpAny_loadPart' hb1, wpAny_forIn_list _ (fun rest b s' => (b.1 = none ∧ ∃ i, rest = (items.toList.zip items2.toList).drop i ∧ i ≤ min items.size items2.size ∧ I i s') ∨ (rest = [] ∧ b.1 = some (.done (.ret (.bool true))) ∧ R (.ok (.ret (.bool true))) s')) _
  case turn =>
    rintro ⟨y, x⟩ rest b s' (⟨hb', i, hz, hi, hI⟩ | ⟨hz, _⟩)
    · have hlt : i < (items.toList.zip items2.toList).length := by
        rcases Nat.lt_or_ge i (items.toList.zip items2.toList).length with h' | h'
        · exact h'
        · rw [List.drop_of_length_le h'] at hz; cases hz
      have h1 : i < items.size := by omega
      have h2 : i < items2.size := by omega
      rw [List.drop_eq_getElem_cons hlt] at hz
      injection hz with hyx hrest
      have hy : y = items[i] := by have := congrArg Prod.fst hyx; simpa using this
      have hx : x = items2[i] := by have := congrArg Prod.snd hyx; simpa using this
      subst hy hx
      refine wpAny_bind (wpAny_mono (turn i h1 h2 s' hI) (fun r s2 q2 => ?_) fun _ _ x => x)
      cases r with
      | true =>
        rw [if_pos rfl] at q2
        wp_walk
        exact .inl ⟨rfl, i + 1, hrest, by omega, q2⟩
      | false =>
        rw [if_neg Bool.false_ne_true] at q2
        wp_walk
        exact fl _ q2
    · cases hz
  case fin =>
    rintro ⟨b1, b2⟩ s' (⟨hb', i, hz, hi, hI⟩ | ⟨_, hb', hR⟩)
    · simp only at hb'
      subst hb'
      have hge : min items.size items2.size ≤ i := by
        rcases Nat.lt_or_ge i (items.toList.zip items2.toList).length with h' | h'
        · rw [List.drop_eq_getElem_cons h'] at hz; cases hz
        · exact hZ ▸ h'
      have hi' : i = min items.size items2.size := by omega
      have hR : R (.ok (.ret (.bool (items.size != items2.size)))) s' := fin s' (hi' ▸ hI)
      wp_walk
      exact hR
    · simp only at hb'
      subst hb'
      wp_walk
      exact hR
  case h =>
    exact .inl ⟨rfl, 0, rfl, Nat.zero_le _, h0⟩
end
section
variable {prog : Program} {w : World} {A : Around} {E : Value → Shared → Prop} {s : Shared}
theorem rc_list_eq {l b : Addr} {N : Nat} {Q : Value → Shared → Prop} (hu : A.units < cLine) (I : Nat → Shared → Prop) (Fl : Shared → Prop) (hl : ListB prog w A E l b N I Fl)
    (fin : ∀ s, I N s → Q (.bool true) s) (fl : ∀ s, Fl s → Q (.bool false) s) (h : I 0 s) : wpAny (model prog w) A (richCompare .Eq (.ref l) (.ref b)) Q E s := by
  obtain ⟨items, items2, n, n2, hl1, hb1, _, _, _⟩ := hl _ _ h
  refine wpAny_richCompare_same_room (op := .Eq) ⟨_, hl1, rfl⟩ ⟨_, hb1, rfl⟩ F.slot_list_eq (GQ.call_here F.slot_list_eq ⟨_, hl1, rfl⟩ F.entry_list_eq (F.args_list_eq_2 _ _) ?_) hu
  exact list_eqB (R := wants (fun v s' => v ≠ .notImplemented ∧ Q v s') E) l b N I Fl hl (fun s' q => ⟨(fun x => nomatch x), fin s' q⟩) (fun s' q => ⟨(fun x => nomatch x), fl s' q⟩) h
theorem rc_tup_eq {l b : Addr} {items items2 : Array Value} {Q : Value → Shared → Prop} (hu : A.units < cLine) (I : Nat → Shared → Prop) (Fl : Shared → Prop)
    (hl : s.heap.IsTuple l items) (hb : s.heap.IsTuple b items2)
    (turn : ∀ i (h1 : i < items.size) (h2 : i < items2.size) s, I i s → wpAny (model prog w) A.in1 (eqBool items[i] items2[i]) (fun r s' => if r = true then I (i + 1) s' else Fl s') E s)
    (fin : ∀ s, I (min items.size items2.size) s → Q (.bool (items.size == items2.size)) s) (fl : ∀ s, Fl s → Q (.bool false) s) (h : I 0 s) : wpAny (model prog w) A (richCompare .Eq (.ref l) (.ref b)) Q E s := by
  obtain ⟨⟨cls, dd, data, sl⟩, ho, hc, n, hd⟩ := id hl
  obtain ⟨⟨cls2, dd2, data2, sl2⟩, ho2, hc2, n2, hd2⟩ := id hb
  simp only at hc hd hc2 hd2
  subst hc hd hc2 hd2
  refine wpAny_richCompare_same_room (op := .Eq) ⟨_, ho, rfl⟩ ⟨_, ho2, rfl⟩ F.slot_tuple_eq (GQ.call_here F.slot_tuple_eq ⟨_, ho, rfl⟩ F.entry_tuple_eq (F.args_tuple_eq_2 _ _) ?_) hu
  exact tuple_eqB (R := wants (fun v s' => v ≠ .notImplemented ∧ Q v s') E) l b items items2 n n2 dd dd2 sl sl2 I Fl turn (fun s' q => ⟨(fun x => nomatch x), fin s' q⟩) (fun s' q => ⟨(fun x => nomatch x), fl s' q⟩) ho ho2 h
theorem rc_list_ne {l b : Addr} {N : Nat} {Q : Value → Shared → Prop} (hu : A.units < cLine) (I : Nat → Shared → Prop) (Fl : Shared → Prop) (hl : ListB prog w A E l b N I Fl)
    (fin : ∀ s, I N s → Q (.bool false) s) (fl : ∀ s, Fl s → Q (.bool true) s) (h : I 0 s) : wpAny (model prog w) A (richCompare .NotEq (.ref l) (.ref b)) Q E s := by
  obtain ⟨items, items2, n, n2, hl1, hb1, _, _, _⟩ := hl _ _ h
  refine wpAny_richCompare_same_room (op := .NotEq) ⟨_, hl1, rfl⟩ ⟨_, hb1, rfl⟩ F.slot_list_ne (GQ.call_here F.slot_list_ne ⟨_, hl1, rfl⟩ F.entry_list_ne (F.args_list_ne_2 _ _) ?_) hu
  exact list_neB (R := wants (fun v s' => v ≠ .notImplemented ∧ Q v s') E) l b N I Fl hl (fun s' q => ⟨(fun x => nomatch x), fin s' q⟩) (fun s' q => ⟨(fun x => nomatch x), fl s' q⟩) h
theorem rc_tup_ne {l b : Addr} {items items2 : Array Value} {Q : Value → Shared → Prop} (hu : A.units < cLine) (I : Nat → Shared → Prop) (Fl : Shared → Prop)
    (hl : s.heap.IsTuple l items) (hb : s.heap.IsTuple b items2)
    (turn : ∀ i (h1 : i < items.size) (h2 : i < items2.size) s, I i s → wpAny (model prog w) A.in1 (eqBool items[i] items2[i]) (fun r s' => if r = true then I (i + 1) s' else Fl s') E s)
    (fin : ∀ s, I (min items.size items2.size) s → Q (.bool (items.size != items2.size)) s) (fl : ∀ s, Fl s → Q (.bool true) s) (h : I 0 s) : wpAny (model prog w) A (richCompare .NotEq (.ref l) (.ref b)) Q E s := by
  obtain ⟨⟨cls, dd, data, sl⟩, ho, hc, n, hd⟩ := id hl
  obtain ⟨⟨cls2, dd2, data2, sl2⟩, ho2, hc2, n2, hd2⟩ := id hb
  simp only at hc hd hc2 hd2
  subst hc hd hc2 hd2
  refine wpAny_richCompare_same_room (op := .NotEq) ⟨_, ho, rfl⟩ ⟨_, ho2, rfl⟩ F.slot_tuple_ne (GQ.call_here F.slot_tuple_ne ⟨_, ho, rfl⟩ F.entry_tuple_ne (F.args_tuple_ne_2 _ _) ?_) hu
  exact tuple_neB (R := wants (fun v s' => v ≠ .notImplemented ∧ Q v s') E) l b items items2 n n2 dd dd2 sl sl2 I Fl turn (fun s' q => ⟨(fun x => nomatch x), fin s' q⟩) (fun s' q => ⟨(fun x => nomatch x), fl s' q⟩) ho ho2 h
end
end GB
end
section
set_option autoImplicit false
set_option linter.all false
namespace MP
open PySem L2 PySem.Spec PyProof.Rows PyProof.V
mutual
/-- data, lists, dicts, instances -/
def okV : Val → Bool
  | .non | .bl _ | .int _ | .str _ | .ref _ => true
  | .tup vs => okVs vs
  | _ => false
def okVs : List Val → Bool
  | [] => true
  | v :: vs => okV v && okVs vs
end
mutual
def sameV : Val → Val → Bool
  | .non, .non => true
  | .bl a, .bl b => a == b
  | .int a, .int b => a == b
  | .str a, .str b => a == b
  | .ref a, .ref b => a == b
  | .tup vs, .tup us => sameVs vs us
  | _, _ => false
def sameVs : List Val → List Val → Bool
  | [], [] => true
  | v :: vs, u :: us => sameV v u && sameVs vs us
  | _, _ => false
end
mutual
theorem sameV_eq : ∀ {v u : Val}, sameV v u = true → v = u
  | .non, .non, _ => rfl
  | .bl a, .bl b, e => by rw [show a = b from eq_of_beq (by simpa [sameV] using e)]
  | .int a, .int b, e => by rw [show a = b from eq_of_beq (by simpa [sameV] using e)]
  | .str a, .str b, e => by rw [show a = b from eq_of_beq (show (a == b) = true from by rw [sameV] at e; exact e)]
  | .ref a, .ref b, e => by rw [show a = b from eq_of_beq (by simpa [sameV] using e)]
  | .tup vs, .tup us, e => by rw [sameVs_eq (show sameVs vs us = true by rw [sameV] at e; exact e)]
  | .non, .bl _, e | .non, .int _, e | .non, .str _, e | .non, .tup _, e | .non, .ref _, e | .non, .cls _, e | .non, .ty _, e | .non, .scr _, e => by simp [sameV] at e
  | .bl _, .non, e | .bl _, .int _, e | .bl _, .str _, e | .bl _, .tup _, e | .bl _, .ref _, e | .bl _, .cls _, e | .bl _, .ty _, e | .bl _, .scr _, e => by simp [sameV] at e
  | .int _, .non, e | .int _, .bl _, e | .int _, .str _, e | .int _, .tup _, e | .int _, .ref _, e | .int _, .cls _, e | .int _, .ty _, e | .int _, .scr _, e => by simp [sameV] at e
  | .str _, .non, e | .str _, .bl _, e | .str _, .int _, e | .str _, .tup _, e | .str _, .ref _, e | .str _, .cls _, e | .str _, .ty _, e | .str _, .scr _, e => by simp [sameV] at e
  | .tup _, .non, e | .tup _, .bl _, e | .tup _, .int _, e | .tup _, .str _, e | .tup _, .ref _, e | .tup _, .cls _, e | .tup _, .ty _, e | .tup _, .scr _, e => by simp [sameV] at e
  | .ref _, .non, e | .ref _, .bl _, e | .ref _, .int _, e | .ref _, .str _, e | .ref _, .tup _, e | .ref _, .cls _, e | .ref _, .ty _, e | .ref _, .scr _, e => by simp [sameV] at e
  | .cls _, _, e => by simp [sameV] at e
  | .ty _, _, e => by simp [sameV] at e
  | .scr _, _, e => by simp [sameV] at e
theorem sameVs_eq : ∀ {v u : List Val}, sameVs v u = true → v = u
  | [], [], _ => rfl
  | v :: vs, u :: us, e => by
    rw [sameVs, Bool.and_eq_true] at e
    rw [sameV_eq e.1, sameVs_eq e.2]
  | [], _ :: _, e => by simp [sameVs] at e
  | _ :: _, [], e => by simp [sameVs] at e
end
/-- the list is as it was -/
def lstIs (h : Heap) (a : Nat) (vs : List Val) : Bool := match rd h a with
  | some (.lst ws) => sameVs ws vs
  | _ => false
theorem lstIs_eq {h : Heap} {a : Nat} {vs : List Val} (e : lstIs h a vs = true) : rd h a = some (.lst vs) := by
  unfold lstIs at e
  split at e
  · rename_i ws z
    rw [z, sameVs_eq e]
  · cases e
def eqGs (ck : Heap → Bool) (E : Val → Val → Heap → Rs Bool) : List Val → List Val → Heap → Rs Bool
  | v :: vs, u :: us, h => (E v u h).bind fun b h1 => if ck h1 = true then (if b then eqGs ck E vs us h1 else .ok false h1) else .bad
  | _, _, h => .ok true h
def toBl (r : Rs Val) : Rs Bool := r.bind fun v h => match v with
  | .bl b => .ok b h
  | _ => .bad
/-- two lists or two tuples, by their items -/
def eqRow (E : Val → Val → Heap → Rs Bool) (v u : Val) (h : Heap) : Rs Bool := match lstOf v h, lstOf u h with
  | some (a, vs), some (b, us) => if vs.length = us.length then (if (lstIs h a vs && lstIs h b us) = true then eqGs (fun h1 => lstIs h1 a vs && lstIs h1 b us) E vs us h else .bad) else .ok false h
  | _, _ => (match v, u with
    | .tup vs, .tup us => (eqGs (fun _ => true) E vs us h).bind fun r h1 => .ok (r && decide (vs.length = us.length)) h1
    | _, _ => .bad)
section
variable (oeq : Nat → Option MI) (nf : Nat → Ty → Bool)
/-- a text or a tuple at the left, an instance at the right: the right one's own == -/
def eqRefl (v u : Val) (h : Heap) : Rs Bool := match insOf u h with
  | some (c, _) => toBl (ownEq oeq nf false c u v h)
  | none => .bad
def rcG (E : Val → Val → Heap → Rs Bool) (v u : Val) (h : Heap) : Rs Bool := match insOf v h with
  | some (c, _) => toBl (ownEq oeq nf false c v u h)
  | none => (match v, u with
    | .tup vs, .tup us => eqRow E (.tup vs) (.tup us) h
    | .tup _, .str _ => .ok false h
    | .str _, .tup _ => .ok false h
    | .tup _, .ref _ => eqRefl oeq nf v u h
    | .str _, .ref _ => eqRefl oeq nf v u h
    | .ref _, .ref _ => (match eqV v u h with
      | some b => .ok b h
      | none => eqRow E v u h)
    | _, _ => (match eqVal v u h with
      | some b => .ok b h
      | none => .bad))
/-- == of two items -/
def eqG : Nat → Val → Val → Heap → Rs Bool
  | 0, _, _, _ => .bad
  | n + 1, v, u, h => if (flat v && flat u) = true then .ok (eqF v u) h else if (okV v && okV u) = true then (if sameR v u = true then .ok true h else rcG oeq nf (eqG n) v u h) else .bad
/-- == and != of two lists, of two tuples -/
def deepOp (sg : Bool) (x y : Val) (h : Heap) : Rs Val := (eqRow (eqG oeq nf 7) x y h).bind fun b h1 => .ok (.bl (b != sg)) h1
end
def selfE (E : Val → Val → Heap → Rs Bool) : Prop := ∀ v h, okV v = true → E v v h = .ok true h ∨ E v v h = .bad
theorem eqF_self : ∀ {v : Val}, flat v = true → eqF v v = true
  | .non, _ => rfl
  | .bl a, _ => by simp [eqF]
  | .int a, _ => by simp [eqF]
  | .str a, _ => beq_self_eq_true a
  | .tup _, e | .ref _, e | .cls _, e | .ty _, e | .scr _, e => by simp [flat] at e
theorem eqGs_self {E : Val → Val → Heap → Rs Bool} (hE : selfE E) {ck : Heap → Bool} : ∀ {vs : List Val} {h : Heap}, okVs vs = true → eqGs ck E vs vs h = .ok true h ∨ eqGs ck E vs vs h = .bad
  | [], h, _ => .inl rfl
  | v :: vs, h, e => by
    rw [okVs, Bool.and_eq_true] at e
    unfold eqGs
    rcases hE v h e.1 with z | z <;> rw [z]
    · show (if ck h = true then (if true = true then eqGs ck E vs vs h else .ok false h) else .bad) = _ ∨ (if ck h = true then (if true = true then eqGs ck E vs vs h else .ok false h) else .bad) = _
      by_cases c : ck h = true
      · rw [if_pos c, if_pos rfl]
        exact eqGs_self hE e.2
      · rw [if_neg c]; exact .inr rfl
    · exact .inr rfl
theorem eqG_self {oeq : Nat → Option MI} {nf : Nat → Ty → Bool} : ∀ n, selfE (eqG oeq nf n)
  | 0, _, _, _ => .inr rfl
  | n + 1, v, h, e => by
    unfold eqG
    cases hf : flat v with
    | true => rw [if_pos (by rfl), eqF_self hf]; exact .inl rfl
    | false =>
      rw [if_neg (by simp), if_pos (by rw [e]; rfl)]
      cases v with
      | ref a => rw [if_pos (by simp [sameR])]; exact .inl rfl
      | tup vs =>
        rw [if_neg (by simp [sameR])]
        show (eqGs (fun _ => true) (eqG oeq nf n) vs vs h).bind (fun r h1 => .ok (r && decide (vs.length = vs.length)) h1) = _ ∨ (eqGs (fun _ => true) (eqG oeq nf n) vs vs h).bind (fun r h1 => .ok (r && decide (vs.length = vs.length)) h1) = _
        rw [okV] at e
        rcases eqGs_self (eqG_self n) (ck := fun _ => true) (h := h) e with z | z <;> rw [z]
        · left; show Rs.ok (true && decide (vs.length = vs.length)) h = _; simp
        · exact .inr rfl
      | _ => first | (simp [flat] at hf; done) | (simp [okV] at e; done)
section
variable {g : G} {lv : Nat}
/-- below the running body, with as much room as its own calls take -/
structure Near (X : Cx) (m : Nat) (A : Around) : Prop where
  fr : A.frames = X.A.frames
  hd : A.handled = X.A.handled
  dp : A.depth = X.A.depth
  un : A.units ≤ X.A.units + m
theorem Near.here {X : Cx} : Near X 0 X.A := ⟨rfl, rfl, rfl, Nat.le_refl _⟩
theorem Near.in1 {X : Cx} {m : Nat} {A : Around} (n : Near X m A) : Near X (m + 1) A.in1 := ⟨n.fr, n.hd, n.dp, by have := n.un; show A.units + 1 ≤ _; omega⟩
theorem Near.room {X : Cx} {m k lv : Nat} {A : Around} (n : Near X m A) (hm : m ≤ 15) (r : Room lv X.A) (h : k + 1 ≤ lv) : Room k A := ⟨by rw [n.hd]; exact r.hd, by rw [n.dp]; have := r.dp; omega, by have := n.un; have := r.un; omega⟩
theorem Near.un1 {X : Cx} {m lv : Nat} {A : Around} (n : Near X m A) (hm : m ≤ 15) (r : Room lv X.A) : A.units + 100 < cLine := by have := n.un; have := r.un; omega
/-- a cell that is told by its number is no tuple -/
theorem ref_notup {X : Cx} {W : WX} {N : List Str} {sc : Scope} (G : Good g X N sc W lv) {pins : List (Addr × Obj)} {s : Shared} {σ : L2.St} {ρ : Nat → Addr} {h : Heap} {H : Hp} (I : Inv X pins σ H s) (r : Rel g ρ h H) {i : Nat} (hi : i < h.length) {xs : List L2.V} (ht : SqT g.K H (ρ i) xs) : False := by
  have ht1 := ht
  rw [← G.hK] at ht1
  obtain ⟨its, _, ⟨o, ho, hc, _⟩, _⟩ := I.tuple ht1
  obtain ⟨b, c, e⟩ : ∃ b c, h[i]? = some (b, c) := ⟨_, _, List.getElem?_eq_getElem hi⟩
  have q := r.obj i b c e
  have dk : ∀ {kvs : List (Key × L2.V)}, Rd H (ρ i) (.dK kvs) → False := fun hd => by
    obtain ⟨_, _, _, _, o', _, _, h1, h2, _⟩ := dk_rd I.hok hd
    rw [ho] at h1
    cases h1
    rw [h2.1] at hc
    exact absurd hc (by decide)
  have ls : ∀ {ys : List L2.V}, H (ρ i) = some (.lst ys) → False := fun hl => by
    obtain ⟨_, _, _, _, h1⟩ := I.hok _ _ hl
    rw [ho] at h1
    cases h1
    exact nomatch (show (Value.type "list") = .type "tuple" from hc)
  cases b <;> cases c
  · obtain ⟨_, _, e, _⟩ := q; exact ls e
  · obtain ⟨_, _, e, _⟩ := q; exact dk (.inl e)
  · obtain ⟨_, _, e, _⟩ := q
    obtain ⟨_, _, _, h1, _⟩ := I.hok _ _ e
    rw [ho] at h1
    cases h1
    exact nomatch hc
  · obtain ⟨_, _, e, _⟩ := q; exact ls e
  · obtain ⟨_, o', _, e, _⟩ := q; exact dk (.inr ⟨o', e⟩)
  · exact q.elim
mutual
/-- the same thing is the same value -/
theorem okV_inj {X : Cx} {W : WX} {N : List Str} {sc : Scope} (G : Good g X N sc W lv) {pins : List (Addr × Obj)} {s : Shared} {σ : L2.St} {ρ : Nat → Addr} {h : Heap} {H : Hp} (I : Inv X pins σ H s) (r : Rel g ρ h H) : ∀ {v u : Val} {x : L2.V}, okV v = true → okV u = true → VR g ρ h.length H v x → VR g ρ h.length H u x → v = u
  | .non, u, x, _, e, t, t' => by
    cases t.of_non
    cases u with
    | non => rfl
    | bl b => exact nomatch t'.of_bl
    | int b => exact nomatch t'.of_int
    | str b => exact nomatch t'.of_str.1
    | tup vs => obtain ⟨_, _, z, _⟩ := t'.of_tup; exact nomatch z
    | ref i => exact nomatch t'.of_ref.2
    | _ => simp [okV] at e
  | .bl a, u, x, _, e, t, t' => by
    cases t.of_bl
    cases u with
    | non => exact nomatch t'.of_non
    | bl b => cases t'.of_bl; rfl
    | int b => exact nomatch t'.of_int
    | str b => exact nomatch t'.of_str.1
    | tup vs => obtain ⟨_, _, z, _⟩ := t'.of_tup; exact nomatch z
    | ref i => exact nomatch t'.of_ref.2
    | _ => simp [okV] at e
  | .int a, u, x, _, e, t, t' => by
    cases t.of_int
    cases u with
    | non => exact nomatch t'.of_non
    | bl b => exact nomatch t'.of_bl
    | int b => cases t'.of_int; rfl
    | str b => exact nomatch t'.of_str.1
    | tup vs => obtain ⟨_, _, z, _⟩ := t'.of_tup; exact nomatch z
    | ref i => exact nomatch t'.of_ref.2
    | _ => simp [okV] at e
  | .str a, u, x, _, e, t, t' => by
    cases t.of_str.1
    cases u with
    | non => exact nomatch t'.of_non
    | bl b => exact nomatch t'.of_bl
    | int b => exact nomatch t'.of_int
    | str b => cases t'.of_str.1; rfl
    | tup vs => obtain ⟨_, _, z, _⟩ := t'.of_tup; exact nomatch z
    | ref i => exact nomatch t'.of_ref.2
    | _ => simp [okV] at e
  | .ref a, u, x, _, e, t, t' => by
    obtain ⟨la, rfl⟩ := t.of_ref
    cases u with
    | non => exact nomatch t'.of_non
    | bl b => exact nomatch t'.of_bl
    | int b => exact nomatch t'.of_int
    | str b => exact nomatch t'.of_str.1
    | tup vs =>
      obtain ⟨b, xs, z, hb, _⟩ := t'.of_tup
      cases z
      exact (ref_notup G I r la hb).elim
    | ref i =>
      obtain ⟨li, z⟩ := t'.of_ref
      rw [r.inj a i la li (by injection z)]
    | _ => simp [okV] at e
  | .tup vs, u, x, e0, e, t, t' => by
    obtain ⟨a, xs, rfl, ha, ta⟩ := t.of_tup
    cases u with
    | non => exact nomatch t'.of_non
    | bl b => exact nomatch t'.of_bl
    | int b => exact nomatch t'.of_int
    | str b => exact nomatch t'.of_str.1
    | tup us =>
      obtain ⟨b, ys, z, hb, tb⟩ := t'.of_tup
      cases z
      have h1 := ha
      have h2 := hb
      rw [← G.hK] at h1 h2
      cases I.tuple_inj h1 h2
      rw [okV] at e0 e
      rw [okVs_inj G I r e0 e ta tb]
    | ref i =>
      obtain ⟨li, z⟩ := t'.of_ref
      cases z
      exact (ref_notup G I r li ha).elim
    | _ => simp [okV] at e
  | .cls _, _, _, e, _, _, _ | .ty _, _, _, e, _, _, _ | .scr _, _, _, e, _, _, _ => by simp [okV] at e
theorem okVs_inj {X : Cx} {W : WX} {N : List Str} {sc : Scope} (G : Good g X N sc W lv) {pins : List (Addr × Obj)} {s : Shared} {σ : L2.St} {ρ : Nat → Addr} {h : Heap} {H : Hp} (I : Inv X pins σ H s) (r : Rel g ρ h H) : ∀ {v u : List Val} {x : List L2.V}, okVs v = true → okVs u = true → VRs g ρ h.length H v x → VRs g ρ h.length H u x → v = u
  | [], [], _, _, _, _, _ => rfl
  | [], u :: us, _, _, _, t, t' => by
    rw [VRs] at t
    subst t
    rw [VRs] at t'
    obtain ⟨_, _, z, _⟩ := t'
    cases z
  | v :: vs, [], _, _, _, t, t' => by
    rw [VRs] at t'
    subst t'
    rw [VRs] at t
    obtain ⟨_, _, z, _⟩ := t
    cases z
  | v :: vs, u :: us, _, e, e', t, t' => by
    rw [VRs] at t t'
    rw [okVs, Bool.and_eq_true] at e e'
    obtain ⟨x, xr, rfl, t1, t2⟩ := t
    obtain ⟨y, yr, z, t3, t4⟩ := t'
    cases z
    rw [okV_inj G I r e.1 e'.1 t1 t3, okVs_inj G I r e.2 e'.2 t2 t4]
end
end
end MP
end
section
set_option autoImplicit false
set_option Elab.async false
set_option linter.all false
set_option maxRecDepth 100000
namespace GB
open PySem PySem.SeqAt PySem.Spec PyProof.Rows
open AutoSeq1 (wpAny_loadPart')
open MeetsSeq MeetsSeq2 MeetsSeq3 SeqRoads2
theorem str_eq_decl (b : Str) (u : Tok) (l C dx : Addr) :
    Meets (Builtin.«str.__eq__» ⟨[.str b u, .ref l], []⟩) (fun _ R s => s.heap.get? l = some (PySem.W.instObj C dx) ∧ R (.ok (.ret .notImplemented)) s) :=
  .of_wp fun prog w A R s h => by obtain ⟨hp, g, d, tk, os⟩ := s; obtain ⟨hl, h⟩ := h; wp_walk using wpAny_loadPart' hl, wpAny_load hl; exact ⟨_, rfl, h⟩
section
variable {prog : Program} {w : World} {A : Around} {E : Value → Shared → Prop} {s : Shared} {K : PySem.W.Frag} {x C dx f L l : Addr} {h₀ : PySem.Heap} {m : Str → Option Value} {Q : Value → Shared → Prop}
open PySem.W in
theorem tup_eq_decl {items : Array Value} {n : Nat} {dd : Option Addr} {sl : Array (Option Value)} {R : Fin → Shared → Prop} (X : K.In s.heap) (hl : s.heap.get? l = some { cls := .type "tuple", dict := dd, data := .seq items n, slots := sl }) (hx : s.heap.get? x = some (instObj C dx))
    (hm : mroIn K C (.type "tuple") = some false) (h : R (.done (.ret .notImplemented)) s) : wpAny (model prog w) A (Builtin.«tuple.__eq__» ⟨[.ref l, .ref x], []⟩) R E s := by
  have hI : ∀ {R' : Bool → Shared → Prop}, R' false s → wpAny (model prog w) A (isInstance (.ref x) (.type "tuple")) R' E s := fun {R'} q => by
    unfold isInstance
    exact wpAny_bind (wpAny_typeOf_ref hx ((looks_mroIn X hm).here q))
  obtain ⟨hp, g, d, tk, os⟩ := s
  wp_walk using wpAny_loadPart' hl, hI
  exact h
open PySem.W in
theorem rc_refl {a : Value} {Ta ida : String} {ox : Obj} {od : Option Obj} (ha : s.TypeIs a Ta) (hu : A.units < cLine) (X : K.In s.heap) (I : InstAt s.heap x ox C od) (h1 : Slot Ta "__eq__" ida) (hsub : mroIn K C (.type Ta) = some false)
    (hc1 : ∀ Q' : Value → Shared → Prop, Q' .notImplemented s → wpAny (model prog w) A (call (.builtin ida) [a, .ref x]) Q' E s) (hs : findIn K (.ref C) "__eq__" = some (some (.ref f))) (hf : isFn K (.ref f) = true)
    (h : wpAny (model prog w) A (call (.ref f) [.ref x, a]) (PySem.W.CmpBack Q) E s) : wpAny (model prog w) A (richCompare .Eq a (.ref x)) Q E s := by
  have one : wpAny (model prog w) A (tryCompare (.ref x) "__eq__" a) (fun r s' => ∃ v, r = some v ∧ Q v s') E s := by
    unfold tryCompare
    refine wpAny_bind (ifBound_K X I hs hf (wpAny_mono h (fun v s' hv => ?_) fun _ _ e => e))
    cases v <;> first | exact hv.elim | exact wpAny_pure ⟨_, rfl, hv⟩
  have hne : (Value.type Ta != Value.ref C) = true := rfl
  have hne2 : (Value.ref C != Value.type Ta) = true := rfl
  simp only [richCompare, cmpInfo, ha.oneThing_none]
  refine wpAny_holding (wpAny_bind (wpAny_cRoomFor hu ?_))
  refine wpAny_bind (wpAny_typeOf ha (wpAny_bind (I.type.here ?_)))
  simp only [hne, hne2, if_true]
  refine wpAny_bind ((looks_mroIn X hsub).here ?_)
  simp only [Bool.false_eq_true, if_false, Bool.not_false, if_true]
  refine wpAny_bind (m := tryCompare a _ (.ref x)) (wpAny_tryCompare_declines ha h1 (hc1 _ ⟨rfl, ?_⟩))
  refine wpAny_bind (m := tryCompare (.ref x) _ a) (wpAny_mono one (fun r s' z => ?_) fun _ _ e => e)
  obtain ⟨v, rfl, hq⟩ := z
  exact wpAny_pure hq
open PySem.W in
theorem rc_str_inst {b : Str} {u : Tok} {od : Option Obj} (hu : A.units < cLine) (X : K.In s.heap) (I : InstAt s.heap x (instObj C dx) C od) (hsub : mroIn K C (.type "str") = some false) (hs : findIn K (.ref C) "__eq__" = some (some (.ref f))) (hf : isFn K (.ref f) = true)
    (h : wpAny (model prog w) A (call (.ref f) [.ref x, .str b u]) (PySem.W.CmpBack Q) E s) : wpAny (model prog w) A (richCompare .Eq (.str b u) (.ref x)) Q E s :=
  rc_refl (typeIs_str s b u) hu X I F.slot_str_eq hsub (fun Q' q => call_meets F.slot_str_eq (typeIs_str s b u) F.entry_str_eq (F.args_str_eq_2 _ _) (str_eq_decl b u x C dx) ⟨I.at_, q⟩) hs hf h
open PySem.W in
theorem rc_tup_inst {items : Array Value} {od : Option Obj} (hl : s.heap.IsTuple l items) (hu : A.units < cLine) (X : K.In s.heap) (I : InstAt s.heap x (instObj C dx) C od) (hsub : mroIn K C (.type "tuple") = some false) (hs : findIn K (.ref C) "__eq__" = some (some (.ref f))) (hf : isFn K (.ref f) = true)
    (h : wpAny (model prog w) A (call (.ref f) [.ref x, .ref l]) (PySem.W.CmpBack Q) E s) : wpAny (model prog w) A (richCompare .Eq (.ref l) (.ref x)) Q E s := by
  obtain ⟨⟨cls, dd, data, sl⟩, ho, hc, n, hd⟩ := id hl
  simp only at hc hd
  subst hc hd
  exact rc_refl ⟨_, ho, rfl⟩ hu X I F.slot_tuple_eq hsub (fun Q' q => GQ.call_here F.slot_tuple_eq ⟨_, ho, rfl⟩ F.entry_tuple_eq (F.args_tuple_eq_2 _ _) (tup_eq_decl X ho I.at_ hsub q)) hs hf h
end
end GB
end
section
set_option autoImplicit false
set_option Elab.async false
set_option linter.all false
namespace MP
open PySem L2 PySem.Spec PyProof.Rows PyProof.V
section
variable {prog : Program} {w : World} {A : Around} {E : Value → Shared → Prop} {s : Shared}
theorem eqBool_rcL {l : Addr} {b : Value} {Q : Bool → Shared → Prop} (hne : (Value.ref l == b) = false) (h : wpAny (model prog w) A (richCompare .Eq (.ref l) b) (fun v s' => ∃ r, v = .bool r ∧ Q r s') E s) : wpAny (model prog w) A (eqBool (.ref l) b) Q E s := by
  unfold eqBool
  refine wpAny_holding ?_
  refine wpAny_ite_split (fun hab => absurd hab (by rw [hne]; exact Bool.false_ne_true)) (fun _ => ?_)
  refine wpAny_bind (wpAny_mono h (fun v s' hv => ?_) fun _ _ x => x)
  obtain ⟨r, rfl, q⟩ := hv
  exact wpAny_truthy_bool q
theorem eqBool_rcS {x : Str} {t : Tok} {b : Addr} {Q : Bool → Shared → Prop} (h : wpAny (model prog w) A (richCompare .Eq (.str x t) (.ref b)) (fun v s' => ∃ r, v = .bool r ∧ Q r s') E s) : wpAny (model prog w) A (eqBool (.str x t) (.ref b)) Q E s := by
  unfold eqBool
  refine wpAny_holding ?_
  refine wpAny_ite_split (fun hab => absurd (eq_of_beq hab) nofun) (fun _ => ?_)
  refine wpAny_bind (wpAny_mono h (fun v s' hv => ?_) fun _ _ x => x)
  obtain ⟨r, rfl, q⟩ := hv
  exact wpAny_truthy_bool q
end
section
variable {g : G} {lv : Nat}
abbrev TB : (Nat → Addr) → Nat → Hp → Bool → Bool → Prop := fun _ _ _ a b => a = b
/-- == of two items is as E says -/
def EOK (g : G) (lv : Nat) (X : Cx) (W : WX) (m : Nat) (E : Val → Val → Heap → Rs Bool) : Prop :=
  ∀ (A : Around), Near X m A → ∀ (pins : List (Addr × Obj)) (s : Shared) (ρ : Nat → Addr) (h : Heap) (H : Hp) (σ : L2.St) (v u : Val) (x y : L2.V) (vx vy : Value) (Q : Bool → Hp → Prop), Inv X pins σ H s → Rel g ρ h H → VR g ρ h.length H v x → VR g ρ h.length H u y → RelV x vx → RelV y vy →
    QR g TB W ρ h H σ (E v u h) Q → wpAny (model X.prog X.w) A (eqBool vx vy) (TP X pins σ Q) X.xe s
/-- the text's own == -/
theorem own_rcA {oeq : Nat → Option MI} {nf : Nat → Ty → Bool} (T : ∀ c i, oeq c = some i → OEq g lv c i) (Nf : NfOk g nf) {X : Cx} {W : WX} {N : List Str} {sc : Scope} (G : Good g X N sc W lv) {m : Nat} {A : Around} (nr : Near X m A) (hm : m ≤ 15) {ρ : Nat → Addr} {h : Heap} {H : Hp} {σ : L2.St} {x y : Val} {vx vy : L2.V} {Q : Bool → Hp → Prop} {c : Nat} {fl : List (Str × Val)} (r : Rel g ρ h H) (tx : VR g ρ h.length H x vx) (ty : VR g ρ h.length H y vy)
    (hx : insOf x h = some (c, fl)) (q : QR g TB W ρ h H σ (toBl (ownEq oeq nf false c x y h)) Q) {pins : List (Addr × Obj)} {s : Shared} {v u : Value} (I : Inv X pins σ H s) (rx : RelV vx v) (ry : RelV vy u) : wpAny (model X.prog X.w) A (richCompare .Eq v u) (fun z s' => ∃ b, z = .bool b ∧ TP X pins σ Q b s') X.xe s := by
  have q := QR.bind (T := VR g) q
  obtain ⟨a, rfl, za⟩ := insOf_ok hx
  obtain ⟨_, rfl⟩ := tx.of_ref
  obtain ⟨dx, xs, e1, e2⟩ := r.ins za
  cases rx
  unfold ownEq at q
  split at q
  · rename_i i t zo zt
    split at q
    · rename_i hc
      obtain ⟨k, f, fd, ps, hk, hfe, hfn, hne, hmro, D, V⟩ := (T c i zo).ex
      obtain ⟨mA, J, _⟩ := ins_get I.hok e1
      obtain ⟨od, J, _⟩ := J.look
      obtain ⟨m', hF⟩ := I.fr
      have L := looks_ty G I r ty ry zt (fun k' e => Nf.ins c k' (by rw [← e]; exact hc.1)) (model X.prog X.w)
      have nfk := Nf.ok c t hc.1
      rw [← G.hK] at nfk hfe hfn hne hmro
      have tv : VRs g ρ h.length H [Val.ref a, y] [L2.V.ref (ρ a), vy] := by
        rw [VRs]; refine ⟨_, _, rfl, tx, ?_⟩; rw [VRs]; exact ⟨_, _, rfl, ty, by rw [VRs]⟩
      have q' := QR.bind (T := VR g) q
      refine PySem.W.cmp_K (op := .Eq) (by have := nr.un1 hm G.room; omega) hF I.ok.mod.kin J L nfk hfe hfn ?_
      refine wpAny_mono (run_callA G (nr.room hm G.room hk) nr.fr D V I r tv (.cons rfl (.cons ry .nil)) hc.2 q') (fun v s' hv => ?_) fun _ _ e => e
      obtain ⟨b, H', I', rb, ρ1, h1, a', st, r1, t1, _, q1⟩ := hv
      cases a' with
      | bl b' =>
        cases t1.of_bl
        cases rb
        obtain ⟨ρ2, h2, a2, st2, r2, t2, _, q2⟩ := QR.ok (T := VR g) r1 (show VR g ρ1 h1.length H' (.bl (b' != false)) (.bl (b' != false)) from VR.bl) q1
        cases a2 with
        | bl b2 =>
          have e3 := t2.of_bl
          injection e3 with e3
          refine ⟨b', rfl, H', I', ?_⟩
          have := QR.ok (T := TB) r2 rfl q2
          rw [← e3] at this
          simpa using this
        | _ => exact q2.elim
      | _ => exact q1.elim
    · exact q.elim
  · exact q.elim
/-- the right one's own == -/
theorem own_refl {oeq : Nat → Option MI} {nf : Nat → Ty → Bool} (T : ∀ c i, oeq c = some i → OEq g lv c i) (Nf : NfOk g nf) {X : Cx} {W : WX} {N : List Str} {sc : Scope} (G : Good g X N sc W lv) {m : Nat} {A : Around} (nr : Near X m A) (hm : m ≤ 15) {ρ : Nat → Addr} {h : Heap} {H : Hp} {σ : L2.St} {x y : Val} {vx vy : L2.V} {Q : Bool → Hp → Prop} {c : Nat} {fl : List (Str × Val)} (r : Rel g ρ h H) (tx : VR g ρ h.length H x vx) (ty : VR g ρ h.length H y vy)
    (hx : insOf x h = some (c, fl)) (hy : (∃ s, y = .str s) ∨ ∃ vs, y = .tup vs) (q : QR g TB W ρ h H σ (toBl (ownEq oeq nf false c x y h)) Q) {pins : List (Addr × Obj)} {s : Shared} {v u : Value} (I : Inv X pins σ H s) (rx : RelV vx v) (ry : RelV vy u) : wpAny (model X.prog X.w) A (richCompare .Eq u v) (fun z s' => ∃ b, z = .bool b ∧ TP X pins σ Q b s') X.xe s := by
  have q := QR.bind (T := VR g) q
  obtain ⟨a, rfl, za⟩ := insOf_ok hx
  obtain ⟨_, rfl⟩ := tx.of_ref
  obtain ⟨dx, xs, e1, e2⟩ := r.ins za
  cases rx
  unfold ownEq at q
  split at q
  · rename_i i t zo zt
    split at q
    · rename_i hc
      obtain ⟨k, f, fd, ps, hk, hfe, hfn, hne, hmro, D, V⟩ := (T c i zo).ex
      obtain ⟨ms, mt⟩ := (T c i zo).no
      obtain ⟨mA, J, _⟩ := ins_get I.hok e1
      obtain ⟨od, J, _⟩ := J.look
      rw [← G.hK] at hfe hfn hne hmro ms mt
      have tv : VRs g ρ h.length H [Val.ref a, y] [L2.V.ref (ρ a), vy] := by
        rw [VRs]; refine ⟨_, _, rfl, tx, ?_⟩; rw [VRs]; exact ⟨_, _, rfl, ty, by rw [VRs]⟩
      have q' := QR.bind (T := VR g) q
      have call : wpAny (model X.prog X.w) A (call (.ref f) [.ref (ρ a), u]) (PySem.W.CmpBack fun z s' => ∃ b, z = .bool b ∧ TP X pins σ Q b s') X.xe s := by
        refine wpAny_mono (run_callA G (nr.room hm G.room hk) nr.fr D V I r tv (.cons rfl (.cons ry .nil)) hc.2 q') (fun v s' hv => ?_) fun _ _ e => e
        obtain ⟨b, H', I', rb, ρ1, h1, a', st, r1, t1, _, q1⟩ := hv
        cases a' with
        | bl b' =>
          cases t1.of_bl
          cases rb
          obtain ⟨ρ2, h2, a2, st2, r2, t2, _, q2⟩ := QR.ok (T := VR g) r1 (show VR g ρ1 h1.length H' (.bl (b' != false)) (.bl (b' != false)) from VR.bl) q1
          cases a2 with
          | bl b2 =>
            have e3 := t2.of_bl
            injection e3 with e3
            refine ⟨b', rfl, H', I', ?_⟩
            have := QR.ok (T := TB) r2 rfl q2
            rw [← e3] at this
            simpa using this
          | _ => exact q2.elim
        | _ => exact q1.elim
      have hu : A.units < cLine := by have := nr.un1 hm G.room; omega
      rcases hy with ⟨z, rfl⟩ | ⟨vs, rfl⟩
      · cases ty.of_str.1
        obtain ⟨t', rfl⟩ := ry
        exact GB.rc_str_inst hu I.kIn J ms hfe hfn call
      · obtain ⟨b, ys, rfl, hb, _⟩ := ty.of_tup
        cases ry
        rw [← G.hK] at hb
        obtain ⟨its, rv, tp, hz⟩ := I.tuple hb
        exact GB.rc_tup_inst (show s.heap.IsTuple b its.toArray from tp) hu I.kIn J mt hfe hfn call
    · exact q.elim
  · exact q.elim
theorem eqGs_cons {ck : Heap → Bool} {E : Val → Val → Heap → Rs Bool} {v u : Val} {vs us : List Val} {h : Heap} : eqGs ck E (v :: vs) (u :: us) h = (E v u h).bind fun b h1 => if ck h1 = true then (if b then eqGs ck E vs us h1 else .ok false h1) else .bad := rfl
theorem eqGs_end {ck : Heap → Bool} {E : Val → Val → Heap → Rs Bool} {vs us : List Val} {h : Heap} (e : vs = [] ∨ us = []) : eqGs ck E vs us h = .ok true h := by
  rcases e with rfl | rfl
  · rfl
  · cases vs <;> rfl
/-- what the loop keeps: the two lists are as they were -/
structure RowI (g : G) (X : Cx) (W : WX) (pins : List (Addr × Obj)) (σ : L2.St) (ρ : Nat → Addr) (h : Heap) (H : Hp) (ck : Heap → Bool) (E : Val → Val → Heap → Rs Bool) (vs us : List Val) (Q : Bool → Hp → Prop) (i : Nat) (s' : Shared) : Prop where
  ex : ∃ ρ' h' H', Inv X pins σ H' s' ∧ Stp ρ ρ' h h' H H' ∧ Rel g ρ' h' H' ∧ ck h' = true ∧ QR g TB W ρ' h' H' σ (eqGs ck E (vs.drop i) (us.drop i) h') Q
/-- an item's turn -/
theorem row_turn {X : Cx} {W : WX} {N : List Str} {sc : Scope} (G : Good g X N sc W lv) {m : Nat} {E : Val → Val → Heap → Rs Bool} (hE : EOK g lv X W m E) {A : Around} (nr : Near X m A) {pins : List (Addr × Obj)} {σ : L2.St} {ρ : Nat → Addr} {h : Heap} {H : Hp} {ck : Heap → Bool} {vs us : List Val} {Q : Bool → Hp → Prop} {i : Nat} {s' : Shared}
    {ρ' : Nat → Addr} {h' : Heap} {H' : Hp} (I' : Inv X pins σ H' s') (st : Stp ρ ρ' h h' H H') (r' : Rel g ρ' h' H') (q : QR g TB W ρ' h' H' σ (eqGs ck E (vs.drop i) (us.drop i) h') Q)
    (h1 : i < vs.length) (h2 : i < us.length) {x y : L2.V} {vx vy : Value} (tx : VR g ρ' h'.length H' vs[i] x) (ty : VR g ρ' h'.length H' us[i] y) (rx : RelV x vx) (ry : RelV y vy) :
    wpAny (model X.prog X.w) A (eqBool vx vy) (fun b s2 => ∃ ρ2 h2 H2, Inv X pins σ H2 s2 ∧ Stp ρ ρ2 h h2 H H2 ∧ Rel g ρ2 h2 H2 ∧ ck h2 = true ∧ if b = true then QR g TB W ρ2 h2 H2 σ (eqGs ck E (vs.drop (i + 1)) (us.drop (i + 1)) h2) Q else Q false H2) X.xe s' := by
  rw [List.drop_eq_getElem_cons h1, List.drop_eq_getElem_cons h2, eqGs_cons] at q
  refine wpAny_mono (hE A nr pins s' ρ' h' H' σ _ _ x y vx vy _ I' r' tx ty rx ry (QR.bind (T := TB) q)) (fun b s2 z => ?_) fun _ _ e => e
  obtain ⟨H2, I2, ρ2, h2, b', st2, r2, e, _, q2⟩ := z
  cases (show b' = b from e)
  refine ⟨ρ2, h2, H2, I2, st.trans st2, r2, ?_⟩
  by_cases c : ck h2 = true
  · rw [if_pos c] at q2
    refine ⟨c, ?_⟩
    cases b with
    | true => rw [if_pos rfl] at q2 ⊢; exact q2
    | false => rw [if_neg Bool.false_ne_true] at q2 ⊢; exact QR.ok (T := TB) r2 rfl q2
  · rw [if_neg c] at q2; exact q2.elim
theorem lst_at {X : Cx} {W : WX} {N : List Str} {sc : Scope} (G : Good g X N sc W lv) {pins : List (Addr × Obj)} {s : Shared} {σ : L2.St} {ρ : Nat → Addr} {h : Heap} {H : Hp} (I : Inv X pins σ H s) (r : Rel g ρ h H) {a : Nat} {vs : List Val} (e : rd h a = some (.lst vs)) :
    ∃ (xs : List L2.V) (its : List Value) (n : Nat), VRs g ρ h.length H vs xs ∧ Vals xs its ∧ s.heap.get? (ρ a) = some { cls := .type "list", data := .seq its.toArray n } := by
  obtain ⟨_, xs, e1, e2⟩ := r.lstE e
  obtain ⟨z, its, n, rv, ho⟩ := I.hok _ _ e1
  exact ⟨xs, its, n, e2, rv, ho⟩
theorem item_at {ρ : Nat → Addr} {n : Nat} {H : Hp} {vs : List Val} {xs : List L2.V} {its : List Value} (t : VRs g ρ n H vs xs) (rv : Vals xs its) {i : Nat} (h1 : i < vs.length) (h2 : i < its.toArray.size) : ∃ x, VR g ρ n H vs[i] x ∧ RelV x its.toArray[i] := by
  obtain ⟨x, e1, t1⟩ := t.get (List.getElem?_eq_getElem h1)
  obtain ⟨u, e2, r1⟩ := rv.get e1
  have h3 : i < its.length := by simpa using h2
  rw [List.getElem?_eq_getElem h3] at e2
  cases e2
  exact ⟨x, t1, by simpa using r1⟩
/-- two lists or two tuples, item by item -/
theorem eqRow_ok {X : Cx} {W : WX} {N : List Str} {sc : Scope} (G : Good g X N sc W lv) {m : Nat} (hm : m ≤ 14) {E : Val → Val → Heap → Rs Bool} (hE : EOK g lv X W (m + 1) E) (sg : Bool) {A : Around} (nr : Near X m A) {pins : List (Addr × Obj)} {s : Shared} {ρ : Nat → Addr} {h : Heap} {H : Hp} {σ : L2.St} {v u : Val} {x y : L2.V} {vx vy : Value} {Q : Bool → Hp → Prop} (I : Inv X pins σ H s) (r : Rel g ρ h H)
    (tx : VR g ρ h.length H v x) (ty : VR g ρ h.length H u y) (rx : RelV x vx) (ry : RelV y vy) (q : QR g TB W ρ h H σ (eqRow E v u h) Q) : wpAny (model X.prog X.w) A (richCompare (if sg then .NotEq else .Eq) vx vy) (fun z s' => ∃ b : Bool, z = .bool (b != sg) ∧ TP X pins σ Q b s') X.xe s := by
  have hu : A.units < cLine := by have := nr.un1 (by omega) G.room; omega
  unfold eqRow at q
  split at q
  · rename_i a vs b us e1 e2
    obtain ⟨rfl, z1⟩ := lstOf_ok e1
    obtain ⟨rfl, z2⟩ := lstOf_ok e2
    obtain ⟨la, rfl⟩ := tx.of_ref
    obtain ⟨lb, rfl⟩ := ty.of_ref
    cases rx; cases ry
    split at q
    · rename_i hl
      by_cases hck : (lstIs h a vs && lstIs h b us) = true
      case neg => rw [if_neg hck] at q; exact q.elim
      rw [if_pos hck] at q
      have key : ∀ (Qz : Value → Shared → Prop), (∀ (b : Bool) s', TP X pins σ Q b s' → Qz (.bool (b != sg)) s') →
          GB.ListB X.prog X.w A X.xe (ρ a) (ρ b) vs.length (RowI g X W pins σ ρ h H (fun h1 => lstIs h1 a vs && lstIs h1 b us) E vs us Q) (TP X pins σ Q false) ∧ RowI g X W pins σ ρ h H (fun h1 => lstIs h1 a vs && lstIs h1 b us) E vs us Q 0 s ∧ ∀ s', RowI g X W pins σ ρ h H (fun h1 => lstIs h1 a vs && lstIs h1 b us) E vs us Q vs.length s' → TP X pins σ Q true s' := fun Qz hq => by
        refine ⟨fun i s' ⟨ρ', h', H', I', st, r', c, q'⟩ => ?_, ⟨ρ, h, H, I, Stp.refl .., r, ?_, q⟩, fun s' ⟨ρ', h', H', I', st, r', c, q'⟩ => ?_⟩
        · obtain ⟨c1, c2⟩ := Bool.and_eq_true_iff.mp c
          obtain ⟨xs, its, n, t1, rv1, ho1⟩ := lst_at G I' r' (lstIs_eq c1)
          obtain ⟨ys, its2, n2, t2, rv2, ho2⟩ := lst_at G I' r' (lstIs_eq c2)
          rw [st.agr a la] at ho1
          rw [st.agr b lb] at ho2
          have l1 : its.toArray.size = vs.length := by rw [List.size_toArray, ← rv1.length, ← t1.length]
          have l2 : its2.toArray.size = vs.length := by rw [List.size_toArray, ← rv2.length, ← t2.length, hl]
          refine ⟨_, _, n, n2, ho1, ho2, l1, l2, fun h1 h2 => ?_⟩
          have hi : i < vs.length := by omega
          have hi2 : i < us.length := by omega
          obtain ⟨x, tx, rx⟩ := item_at t1 rv1 hi h1
          obtain ⟨y, ty, ry⟩ := item_at t2 rv2 hi2 h2
          refine wpAny_mono (row_turn G hE nr.in1 I' st r' q' hi hi2 tx ty rx ry) (fun k s2 z => ?_) fun _ _ e => e
          obtain ⟨ρ2, h2', H2, I2, st2, r2, c', z⟩ := z
          cases k with
          | true => rw [if_pos rfl] at z ⊢; exact ⟨ρ2, h2', H2, I2, st2, r2, c', z⟩
          | false =>
            rw [if_neg Bool.false_ne_true] at z ⊢
            obtain ⟨c1, c2⟩ := Bool.and_eq_true_iff.mp c'
            obtain ⟨xs', its', n', t1', rv1', ho1'⟩ := lst_at G I2 r2 (lstIs_eq c1)
            obtain ⟨ys', its2', n2', t2', rv2', ho2'⟩ := lst_at G I2 r2 (lstIs_eq c2)
            rw [st2.agr a la] at ho1'
            rw [st2.agr b lb] at ho2'
            exact ⟨⟨_, _, n', n2', ho1', ho2', by rw [List.size_toArray, ← rv1'.length, ← t1'.length], by rw [List.size_toArray, ← rv2'.length, ← t2'.length, hl]⟩, H2, I2, z⟩
        · exact hck
        · rw [eqGs_end (.inl (List.drop_length ..))] at q'
          exact ⟨H', I', QR.ok (T := TB) r' rfl q'⟩
      cases sg with
      | false =>
        obtain ⟨k1, k2, k3⟩ := key (fun z s' => ∃ b : Bool, z = .bool (b != false) ∧ TP X pins σ Q b s') fun b s' z => ⟨b, rfl, z⟩
        exact GB.rc_list_eq hu _ _ k1 (fun s' z => ⟨true, rfl, k3 s' z⟩) (fun s' z => ⟨false, rfl, z⟩) k2
      | true =>
        obtain ⟨k1, k2, k3⟩ := key (fun z s' => ∃ b : Bool, z = .bool (b != true) ∧ TP X pins σ Q b s') fun b s' z => ⟨b, rfl, z⟩
        exact GB.rc_list_ne hu _ _ k1 (fun s' z => ⟨true, rfl, k3 s' z⟩) (fun s' z => ⟨false, rfl, z⟩) k2
    · rename_i hl
      obtain ⟨xs, its, n, t1, rv1, ho1⟩ := lst_at G I r z1
      obtain ⟨ys, its2, n2, t2, rv2, ho2⟩ := lst_at G I r z2
      have hne : (its.toArray.size != its2.toArray.size) = true := by
        rw [bne_iff_ne, List.size_toArray, List.size_toArray, ← rv1.length, ← rv2.length, ← t1.length, ← t2.length]; exact hl
      have fin : TP X pins σ Q false s := ⟨H, I, QR.ok (T := TB) r rfl q⟩
      have i1 : s.heap.IsList (ρ a) its.toArray := ⟨_, ho1, rfl, n, rfl⟩
      have i2 : s.heap.IsList (ρ b) its2.toArray := ⟨_, ho2, rfl, n2, rfl⟩
      cases sg with
      | false => exact SeqAt.RcAt.lists_lengths i1 i2 hne hu _ _ _ _ ⟨false, rfl, fin⟩
      | true => exact SeqAt.RcNeAt.lists_lengths i1 i2 hne hu _ _ _ _ ⟨false, rfl, fin⟩
  · split at q
    · rename_i vs us _
      obtain ⟨a, xs, rfl, ha, t1⟩ := tx.of_tup
      obtain ⟨b, ys, rfl, hb, t2⟩ := ty.of_tup
      cases rx; cases ry
      rw [← G.hK] at ha hb
      obtain ⟨its, rv1, tp1, _⟩ := I.tuple ha
      obtain ⟨its2, rv2, tp2, _⟩ := I.tuple hb
      have l1 : its.toArray.size = vs.length := by rw [List.size_toArray, ← rv1.length, ← t1.length]
      have l2 : its2.toArray.size = us.length := by rw [List.size_toArray, ← rv2.length, ← t2.length]
      have q1 := QR.bind (T := TB) q
      have q2 : QR g TB W ρ h H σ (eqGs (fun _ => true) E vs us h) fun b H1 => Q (b && decide (vs.length = us.length)) H1 := QR.imp q1 fun b H1 ⟨ρ1, h1, b', s1, r1, e, _, z⟩ => by
        cases (show b' = b from e)
        exact QR.ok (T := TB) r1 rfl z
      have turn : ∀ i (h1 : i < its.toArray.size) (h2 : i < its2.toArray.size) s', RowI g X W pins σ ρ h H (fun _ => true) E vs us (fun b H1 => Q (b && decide (vs.length = us.length)) H1) i s' → wpAny (model X.prog X.w) A.in1 (eqBool its.toArray[i] its2.toArray[i]) (fun k s2 => if k = true then RowI g X W pins σ ρ h H (fun _ => true) E vs us (fun b H1 => Q (b && decide (vs.length = us.length)) H1) (i + 1) s2 else TP X pins σ Q false s2) X.xe s' := fun i h1 h2 s' ⟨ρ', h', H', I', st, r', c, q'⟩ => by
        have hi : i < vs.length := by omega
        have hi2 : i < us.length := by omega
        obtain ⟨x, tx, rx⟩ := item_at (t1.step r st) rv1 hi h1
        obtain ⟨y, ty, ry⟩ := item_at (t2.step r st) rv2 hi2 h2
        refine wpAny_mono (row_turn G hE nr.in1 I' st r' q' hi hi2 tx ty rx ry) (fun k s2 z => ?_) fun _ _ e => e
        obtain ⟨ρ2, h2', H2, I2, st2, r2, c', z⟩ := z
        cases k with
        | true => rw [if_pos rfl] at z ⊢; exact ⟨ρ2, h2', H2, I2, st2, r2, c', z⟩
        | false => rw [if_neg Bool.false_ne_true] at z ⊢; exact ⟨H2, I2, z⟩
      have h0 : RowI g X W pins σ ρ h H (fun _ => true) E vs us (fun b H1 => Q (b && decide (vs.length = us.length)) H1) 0 s := ⟨ρ, h, H, I, Stp.refl .., r, rfl, q2⟩
      have fin : ∀ s', RowI g X W pins σ ρ h H (fun _ => true) E vs us (fun b H1 => Q (b && decide (vs.length = us.length)) H1) (min its.toArray.size its2.toArray.size) s' → TP X pins σ Q (decide (vs.length = us.length)) s' := fun s' ⟨ρ', h', H', I', st, r', c, q'⟩ => by
        rw [eqGs_end (by
          rcases Nat.le_total its.toArray.size its2.toArray.size with hh | hh
          · exact .inl (List.drop_eq_nil_of_le (by omega))
          · exact .inr (List.drop_eq_nil_of_le (by omega)))] at q'
        have := QR.ok (T := TB) r' rfl q'
        exact ⟨H', I', by simpa using this⟩
      have hbq : (vs.length == us.length) = decide (vs.length = us.length) := by rw [Bool.eq_iff_iff]; simp
      cases sg with
      | false => exact GB.rc_tup_eq hu _ _ (show s.heap.IsTuple a its.toArray from tp1) (show s.heap.IsTuple b its2.toArray from tp2) turn (fun s' z => ⟨decide (vs.length = us.length), by rw [l1, l2, Bool.bne_false, hbq], fin s' z⟩) (fun s' z => ⟨false, rfl, z⟩) h0
      | true => exact GB.rc_tup_ne hu _ _ (show s.heap.IsTuple a its.toArray from tp1) (show s.heap.IsTuple b its2.toArray from tp2) turn (fun s' z => ⟨decide (vs.length = us.length), by rw [l1, l2, Bool.bne_true, bne, hbq], fin s' z⟩) (fun s' z => ⟨false, rfl, z⟩) h0
    · exact q.elim
theorem eqG_ok {oeq : Nat → Option MI} {nf : Nat → Ty → Bool} (T : ∀ c i, oeq c = some i → OEq g lv c i) (Nf : NfOk g nf) {X : Cx} {W : WX} {N : List Str} {sc : Scope} (G : Good g X N sc W lv) : ∀ (n m : Nat), m + n ≤ 14 → EOK g lv X W m (eqG oeq nf n)
  | 0, _, _ => fun A nr pins s ρ h H σ v u x y vx vy Q I r tx ty rx ry q => q.elim
  | n + 1, m, hm => fun A nr pins s ρ h H σ v u x y vx vy Q I r tx ty rx ry q => by
    have hu := nr.un1 (by omega) G.room
    have pure : ∀ {b : Bool}, SeqAt.EqAt A s vx vy b → QR g TB W ρ h H σ (.ok b h) Q → wpAny (model X.prog X.w) A (eqBool vx vy) (TP X pins σ Q) X.xe s := fun {b} e q => e _ _ _ _ ⟨H, I, QR.ok (T := TB) r rfl q⟩
    unfold eqG at q
    by_cases hf : (flat v && flat u) = true
    · rw [if_pos hf] at q
      obtain ⟨f1, f2⟩ := Bool.and_eq_true_iff.mp hf
      refine pure ?_ q
      rw [← eqv_fd f1 f2]
      exact PySem.W.keq_flat (flat_at f1 tx rx) (flat_at f2 ty ry)
    · rw [if_neg hf] at q
      by_cases ho : (okV v && okV u) = true
      case neg => rw [if_neg ho] at q; exact q.elim
      rw [if_pos ho] at q
      obtain ⟨o1, o2⟩ := Bool.and_eq_true_iff.mp ho
      by_cases hs : sameR v u = true
      · rw [if_pos hs] at q
        cases v with
        | ref a =>
          cases u with
          | ref a' =>
            obtain rfl : a = a' := by simpa [sameR] using hs
            obtain ⟨_, rfl⟩ := tx.of_ref
            obtain ⟨_, rfl⟩ := ty.of_ref
            cases rx; cases ry
            exact pure (SeqAt.EqAt.same _) q
          | _ => cases hs
        | _ => cases hs
      rw [if_neg hs] at q
      unfold rcG at q
      cases hi : insOf v h with
      | some p =>
        obtain ⟨c, fl⟩ := p
        rw [hi] at q
        have rc := own_rcA T Nf G nr (by omega) r tx ty hi q I rx ry
        obtain ⟨a, rfl, za⟩ := insOf_ok hi
        obtain ⟨la, rfl⟩ := tx.of_ref
        cases rx
        refine eqBool_rcL ?_ rc
        cases u with
        | ref b =>
          obtain ⟨lb, rfl⟩ := ty.of_ref
          cases ry
          have hne : ρ a ≠ ρ b := fun z => hs (by have := r.inj a b la lb z; subst this; simp [sameR])
          simpa using hne
        | tup us =>
          obtain ⟨b, ys, rfl, hb, _⟩ := ty.of_tup
          cases ry
          have hne : ρ a ≠ b := fun z => ref_notup G I r la (by rw [z]; exact hb)
          simpa using hne
        | non => cases ty.of_non; cases ry; rfl
        | bl _ => cases ty.of_bl; cases ry; rfl
        | int _ => cases ty.of_int; obtain ⟨_, rfl⟩ := ry; rfl
        | str _ => cases ty.of_str.1; obtain ⟨_, rfl⟩ := ry; rfl
        | _ => simp [okV] at o2
      | none =>
        rw [hi] at q
        dsimp only at q
        have ih := eqG_ok T Nf G n (m + 1) (by omega)
        split at q
        · rename_i vs us
          obtain ⟨a, xs, rfl, ha, t1⟩ := id tx.of_tup
          obtain ⟨b, ys, rfl, hb, t2⟩ := id ty.of_tup
          cases rx; cases ry
          by_cases hab : a = b
          · subst hab
            have hvu := okV_inj G I r o1 o2 tx ty
            injection hvu with hvu
            subst hvu
            have z : eqRow (eqG oeq nf n) (.tup vs) (.tup vs) h = .ok true h ∨ eqRow (eqG oeq nf n) (.tup vs) (.tup vs) h = .bad := by
              show (eqGs (fun _ => true) (eqG oeq nf n) vs vs h).bind (fun r h1 => .ok (r && decide (vs.length = vs.length)) h1) = _ ∨ (eqGs (fun _ => true) (eqG oeq nf n) vs vs h).bind (fun r h1 => .ok (r && decide (vs.length = vs.length)) h1) = _
              rw [okV] at o1
              rcases eqGs_self (eqG_self n) (ck := fun _ => true) (h := h) o1 with z | z <;> rw [z]
              · left; show Rs.ok (true && decide (vs.length = vs.length)) h = _; simp
              · exact .inr rfl
            rcases z with z | z <;> rw [z] at q
            · exact pure (SeqAt.EqAt.same _) q
            · exact q.elim
          · refine eqBool_rcL (by simpa using hab) (wpAny_mono (eqRow_ok G (by omega) ih false nr I r tx ty rfl rfl q) (fun z s' ⟨b, e, t⟩ => ⟨b, by simpa using e, t⟩) fun _ _ e => e)
        · rename_i vs z
          obtain ⟨a, xs, rfl, ha, t1⟩ := tx.of_tup
          cases ty.of_str.1
          cases rx
          obtain ⟨t, rfl⟩ := ry
          rw [← G.hK] at ha
          obtain ⟨its, rv, tp, _⟩ := I.tuple ha
          exact pure (SeqAt.EqAt.tuple_str z t (show s.heap.IsTuple a its.toArray from tp) (by omega)) q
        · rename_i z us
          obtain ⟨a, xs, rfl, ha, t1⟩ := ty.of_tup
          cases tx.of_str.1
          cases ry
          obtain ⟨t, rfl⟩ := rx
          rw [← G.hK] at ha
          obtain ⟨its, rv, tp, _⟩ := I.tuple ha
          exact pure (SeqAt.EqAt.str_tuple z t (show s.heap.IsTuple a its.toArray from tp) (by omega)) q
        · rename_i vs b
          unfold eqRefl at q
          cases hj : insOf (.ref b) h with
          | none => rw [hj] at q; exact q.elim
          | some p =>
            obtain ⟨c, fl⟩ := p
            rw [hj] at q
            have rc := own_refl T Nf G nr (by omega) r ty tx hj (.inr ⟨vs, rfl⟩) q I ry rx
            obtain ⟨a, xs, rfl, ha, t1⟩ := tx.of_tup
            obtain ⟨lb, rfl⟩ := ty.of_ref
            cases rx; cases ry
            have hne : a ≠ ρ b := fun z => ref_notup G I r lb (by rw [← z]; exact ha)
            exact eqBool_rcL (by simpa using hne) rc
        · rename_i z b
          unfold eqRefl at q
          cases hj : insOf (.ref b) h with
          | none => rw [hj] at q; exact q.elim
          | some p =>
            obtain ⟨c, fl⟩ := p
            rw [hj] at q
            have rc := own_refl T Nf G nr (by omega) r ty tx hj (.inl ⟨z, rfl⟩) q I ry rx
            cases tx.of_str.1
            obtain ⟨lb, rfl⟩ := ty.of_ref
            obtain ⟨t, rfl⟩ := rx
            cases ry
            exact eqBool_rcS rc
        · rename_i a b
          cases hv : eqV (.ref a) (.ref b) h with
          | some k =>
            rw [hv] at q
            have e : eqI (.ref a) (.ref b) h = some k := by
              unfold eqI
              rw [if_neg hs]; exact hv
            exact eqI_at G (by omega) I r tx ty rx ry e _ _ ⟨H, I, QR.ok (T := TB) r rfl q⟩
          | none =>
            rw [hv] at q
            have rc := eqRow_ok G (by omega) ih false nr I r tx ty rx ry q
            obtain ⟨la, rfl⟩ := tx.of_ref
            obtain ⟨lb, rfl⟩ := ty.of_ref
            cases rx; cases ry
            have hne : ρ a ≠ ρ b := fun z => hs (by have := r.inj a b la lb z; subst this; simp [sameR])
            exact eqBool_rcL (by simpa using hne) (wpAny_mono rc (fun z s' ⟨b, e, t⟩ => ⟨b, by simpa using e, t⟩) fun _ _ e => e)
        · cases hv : eqVal v u h with
          | some k =>
            rw [hv] at q
            exact pure (eqVal_atA G (by omega) I r tx ty rx ry hv) q
          | none => rw [hv] at q; exact q.elim
theorem op_deep {oeq : Nat → Option MI} {nf : Nat → Ty → Bool} (T : ∀ c i, oeq c = some i → OEq g lv c i) (Nf : NfOk g nf) {X : Cx} {W : WX} {N : List Str} {sc : Scope} (G : Good g X N sc W lv) (sg : Bool) {ρ : Nat → Addr} {h : Heap} {H : Hp} {σ : L2.St} {x y : Val} {vx vy : L2.V} {Q : VK} (r : Rel g ρ h H) (tx : VR g ρ h.length H x vx) (ty : VR g ρ h.length H y vy)
    (q : QR g (VR g) W ρ h H σ (deepOp oeq nf sg x y h) Q) : ∀ (pins : List (Addr × Obj)) (s : Shared) (v u : Value), Inv X pins σ H s → RelV vx v → RelV vy u → wpAny (model X.prog X.w) X.A (compareOp (if sg then .NotEq else .Eq) v u) (EP X pins σ Q) X.xe s := by
  intro pins s v u I rx ry
  have q := QR.bind (T := TB) q
  have := eqRow_ok G (m := 0) (by omega) (eqG_ok T Nf G 7 1 (by omega)) sg Near.here I r tx ty rx ry q
  have e : compareOp (if sg then .NotEq else .Eq) v u = richCompare (if sg then .NotEq else .Eq) v u := by cases sg <;> rfl
  rw [e]
  refine wpAny_mono this (fun z s' ⟨b, e, t⟩ => ?_) fun _ _ e => e
  obtain ⟨H', I', ρ1, h1, b', s1, r1, e', _, q1⟩ := t
  cases (show b' = b from e')
  subst e
  exact ⟨.bl (b != sg), H', I', rfl, QR.ok (T := VR g) r1 (show VR g ρ1 h1.length H' (.bl (b != sg)) (.bl (b != sg)) from VR.bl) q1⟩
/-- the first that knows -/
def orB {α : Type} (r d : Rs α) : Rs α := match r with
  | .bad => d
  | r => r
/-- == and !=, deep where it must be -/
def eqOpD (oeq : Nat → Option MI) (nf : Nat → Ty → Bool) (sg : Bool) (x y : Val) (h : Heap) : Rs Val := orB (eqOp oeq nf sg x y h) (deepOp oeq nf sg x y h)
theorem co_eqD {oeq : Nat → Option MI} {nf : Nat → Ty → Bool} (T : ∀ c i, oeq c = some i → OEq g lv c i) (Nf : NfOk g nf) : SoOS g lv (compareOp .Eq) (eqOpD oeq nf false) := by
  intro X W N sc G ρ h H σ x y vx vy Q r tx ty q
  unfold eqOpD at q
  cases e : eqOp oeq nf false x y h with
  | bad => rw [e] at q; exact op_deep T Nf G false r tx ty q
  | ok v h1 => rw [e] at q; exact co_eq T Nf X W N sc G ρ h H σ x y vx vy Q r tx ty (by rw [e]; exact q)
  | ex c fs h1 => rw [e] at q; exact co_eq T Nf X W N sc G ρ h H σ x y vx vy Q r tx ty (by rw [e]; exact q)
theorem co_neD {oeq : Nat → Option MI} {nf : Nat → Ty → Bool} (T : ∀ c i, oeq c = some i → OEq g lv c i) (Nf : NfOk g nf) : SoOS g lv (compareOp .NotEq) (eqOpD oeq nf true) := by
  intro X W N sc G ρ h H σ x y vx vy Q r tx ty q
  unfold eqOpD at q
  cases e : eqOp oeq nf true x y h with
  | bad => rw [e] at q; exact op_deep T Nf G true r tx ty q
  | ok v h1 => rw [e] at q; exact co_ne T Nf X W N sc G ρ h H σ x y vx vy Q r tx ty (by rw [e]; exact q)
  | ex c fs h1 => rw [e] at q; exact co_ne T Nf X W N sc G ρ h H σ x y vx vy Q r tx ty (by rw [e]; exact q)
end
end MP
end
section
set_option autoImplicit false
set_option linter.all false
namespace MP
open PySem L2
/-- x among ds -/
def inDat (d : PyData) (e : PyData) : Option Bool := match e with
  | .list ds => if SeqAt.shaped d && SeqAt.shaped (.list ds) then some (ds.any fun z => PyData.eqv z d) else none
  | .tuple ds => if SeqAt.shaped d && SeqAt.shaped (.tuple ds) then some (ds.any fun z => PyData.eqv z d) else none
  | _ => none
def inOpD (neg : Bool) : Val → Val → Heap → Rs Val := fun x y h => match x with
  | .tup _ => (match toD h 9 x, toD h 9 y with
    | some d, some e => (match inDat d e with
      | some b => .ok (.bl (b != neg)) h
      | none => .bad)
    | _, _ => .bad)
  | _ => cop (if neg then .nin else .in_) x y h
section
variable {g : G} {lv : Nat}
theorem shaped_plain {d : PyData} (h : SeqAt.shaped d = true) : d.plain = true ∧ d.depth ≤ 64 := by
  unfold SeqAt.shaped at h
  rw [Bool.and_eq_true, decide_eq_true_eq] at h
  exact ⟨PyData.plain_of_canLay0 _ h.1, h.2⟩
theorem co_inDat {X : Cx} {W : WX} {N : List Str} {sc : Scope} (G : Good g X N sc W lv) {ρ : Nat → Addr} {h : Heap} {H : Hp} {x y : Val} {vx vy : L2.V} {Q : VK} {d e : PyData} {b : Bool} (r : Rel g ρ h H) (tx : VR g ρ h.length H x vx) (ty : VR g ρ h.length H y vy) (e1 : toD h 9 x = some d) (e2 : toD h 9 y = some e) (eb : inDat d e = some b) :
    (Q (.bl b) H → SOp X (compareOp .In) vx vy H Q) ∧ (Q (.bl (!b)) H → SOp X (compareOp .NotIn) vx vy H Q) := by
  have hu : X.A.units + 1 + 64 < cLine := by have := G.room.un; omega
  have h1 := toD_ok r 9 tx e1
  have h2 := toD_ok r 9 ty e2
  rw [← G.hK] at h1 h2
  cases e with
  | list ds =>
    simp only [inDat] at eb
    split at eb
    · rename_i hs
      rw [Bool.and_eq_true] at hs
      cases eb
      obtain ⟨p1, q1⟩ := shaped_plain hs.1
      obtain ⟨p2, _⟩ := shaped_plain hs.2
      refine ⟨fun q pins s σ v u I rx ry => ?_, fun q pins s σ v u I rx ry => ?_⟩
      · obtain ⟨as, r1⟩ := Dp.reads I _ _ _ h1 rx
        obtain ⟨bs, r2⟩ := Dp.reads I _ _ _ h2 ry
        exact SeqAt.in_list_data r2 r1 p2 p1 (by omega) ⟨.bl _, H, I, rfl, q⟩
      · obtain ⟨as, r1⟩ := Dp.reads I _ _ _ h1 rx
        obtain ⟨bs, r2⟩ := Dp.reads I _ _ _ h2 ry
        exact SeqAt.notIn_list_data r2 r1 p2 p1 (by omega) ⟨.bl _, H, I, rfl, q⟩
    · cases eb
  | tuple ds =>
    simp only [inDat] at eb
    split at eb
    · rename_i hs
      rw [Bool.and_eq_true] at hs
      cases eb
      obtain ⟨p1, q1⟩ := shaped_plain hs.1
      obtain ⟨p2, _⟩ := shaped_plain hs.2
      refine ⟨fun q pins s σ v u I rx ry => ?_, fun q pins s σ v u I rx ry => ?_⟩
      · obtain ⟨as, r1⟩ := Dp.reads I _ _ _ h1 rx
        obtain ⟨bs, r2⟩ := Dp.reads I _ _ _ h2 ry
        exact SeqAt.in_tuple_data r2 r1 p2 p1 (by omega) ⟨.bl _, H, I, rfl, q⟩
      · obtain ⟨as, r1⟩ := Dp.reads I _ _ _ h1 rx
        obtain ⟨bs, r2⟩ := Dp.reads I _ _ _ h2 ry
        exact SeqAt.notIn_tuple_data r2 r1 p2 p1 (by omega) ⟨.bl _, H, I, rfl, q⟩
    · cases eb
  | _ => cases eb
theorem co_inD : SoO g lv (compareOp .In) (inOpD false) := by
  intro X W N sc G ρ h H σ x y vx vy Q r tx ty q
  unfold inOpD at q
  split at q
  · split at q
    · rename_i d e e1 e2
      split at q
      · rename_i b eb
        exact (co_inDat G r tx ty e1 e2 eb).1 (QR.ok (T := VR g) r VR.bl (by simpa using q))
      · exact q.elim
    · exact q.elim
  · exact co_in (g := g) (lv := lv) X W N sc G ρ h H σ x y vx vy Q r tx ty q
theorem co_ninD : SoO g lv (compareOp .NotIn) (inOpD true) := by
  intro X W N sc G ρ h H σ x y vx vy Q r tx ty q
  unfold inOpD at q
  split at q
  · split at q
    · rename_i d e e1 e2
      split at q
      · rename_i b eb
        exact (co_inDat G r tx ty e1 e2 eb).2 (QR.ok (T := VR g) r VR.bl (by simpa using q))
      · exact q.elim
    · exact q.elim
  · exact co_nin (g := g) (lv := lv) X W N sc G ρ h H σ x y vx vy Q r tx ty q
end
end MP
end
section
set_option autoImplicit false
set_option linter.all false
set_option maxRecDepth 100000
namespace MP
open PySem L2 PySem.Spec PyProof.Rows
namespace XV
open PySem.W PySem.HandSPX
section
variable {M : Model} {prog : Program} {w : World} {A : Around} {E : Value → Shared → Prop} {R : Result → Shared → Prop} {h : PySem.Heap} {g : Array GenState} {d : Drawn} {t : Nat} {os : OsState}
variable {nm q : Str} {C N : Addr} {bs bm bmB : List Value} {hdct : Bool} {sn : List Str} {sub : List Value} {ab : Bool} {col : Option Bool} {dd : Option Addr} {k0 k1 k2 k3 k5 : Option Value} {B newId initId : String} {rest : List Value} {kw : List (Str × Value)} {fI : Addr}
theorem chk_kw (F : ExcBaseFacts B newId initId bmB) (hT : ∀ Y : String, bm.contains (.type Y) = bmB.contains (.type Y)) {Q : Unit → Shared → Prop}
    (cls : h.get? C = some (excClassObj nm q C N bs bm hdct sn sub ab col dd k0 k1 k2 k3 k5 newId)) (post : Q () ⟨h, g, d, t, os⟩) : wpAny M A (checkBuiltinCall newId ⟨.ref C :: rest, kw⟩) Q E ⟨h, g, d, t, os⟩ := by
  have inB : (Value.ref C :: bm).contains (.type B) = true := by rw [List.contains_cons, hT, F.hasB, Bool.or_true]
  have noStar := F.noStar
  simp only [checkBuiltinCall, F.newKind, F.newSplit, F.newRow]
  repeat (first | refine wpAny_loadPart_at cls ?_ | (refine wpAny_isSubtype_exc cls ?_; rw [inB]) | refine wpAny_staticBase_exc cls ?_ | refine wpAny_madeBy_exc cls ?_ | simp only [bne_self_eq_false, Bool.false_eq_true, if_false] | wp_step)
  exact post
theorem new_kw (F : ExcBaseFacts B newId initId bmB) (hT : ∀ Y : String, bm.contains (.type Y) = bmB.contains (.type Y))
    (cls : h.get? C = some (excClassObj nm q C N bs bm hdct sn sub ab col dd k0 k1 k2 k3 k5 newId))
    (post : R (.ok (.ret (.ref (h.objs.size + 1)))) ⟨(h.push { cls := .type "tuple", data := .seq rest.toArray }).push { cls := .ref C, data := .fields #[.ref h.objs.size, .none, .none, .none, .bool false, .none] }, g, d, t, os⟩) (few : rest.length ≤ sizeLine) :
    codeAny (model prog w) A (.builtin newId ⟨.ref C :: rest, kw⟩) R ⟨h, g, d, t, os⟩ := by
  have fin := F.ends
  have inB : (Value.ref C :: bm).contains (.type B) = true := by rw [List.contains_cons, hT, F.hasB, Bool.or_true]
  have inA : (Value.ref C :: bm).contains (.type "AttributeError") = false := by rw [List.contains_cons, hT, F.noAttr]; rfl
  have inN : (Value.ref C :: bm).contains (.type "NameError") = false := by rw [List.contains_cons, hT, F.noName]; rfl
  refine codeAny_builtinAt F.entry ?_
  unfold Builtin.«BaseException.__new__»
  refine PySem.wpAt_bind ?_
  show PySem.wpAt _ _ _ (stack >>= _) _ _ _
  refine PySem.wpAt_bind (PySem.wpAt_stack fun p below => PySem.wpAt_of_wpAny ?_)
  wp_walk
  refine PySem.wpAt_of_wpAny ?_
  rw [F.owner]
  repeat (first | with_reducible refine wpAny_madeHere_exc F.canon cls ?_ | with_reducible refine wpAny_loadPart_at cls ?_ | (with_reducible refine wpAny_isSubtype_exc cls ?_; first | rw [inB] | rw [inA] | rw [inN]) | wp_step)
  show R _ _
  rw [Heap.size_push]
  exact post
theorem tcall_kw (F : ExcBaseFacts B newId initId bmB) (hT : ∀ Y : String, bm.contains (.type Y) = bmB.contains (.type Y)) {Q : PySem.Fin → Shared → Prop}
    (cls : h.get? C = some (excClassObj nm q C N bs bm hdct sn sub ab col dd k0 k1 k2 k3 k5 newId))
    (ini : Looks (model prog w) h (typeLookup (.ref C) "__init__") (some (.ref fI))) (bnd : ∀ self, Looks (model prog w) h (bindSpecial (.ref fI) self) (.ref fI, [self])) (few : rest.length ≤ sizeLine)
    (post : codeAny (model prog w) A (.call (.ref fI) ⟨.ref (h.objs.size + 1) :: rest, kw⟩)
      (fun r s' => match r with | .ok (.ret v) => v = .none ∧ Q (.done (.ret (.ref (h.objs.size + 1)))) s' | .ok _ => False | .error e => E e s') ⟨(h.push (kdv_tup rest)).push (excO C h.objs.size), g, d, t, os⟩) :
    wpAny (model prog w) A (Builtin.«type.__call__» ⟨.ref C :: rest, kw⟩) Q E ⟨h, g, d, t, os⟩ := by
  repeat (first | with_reducible refine wpAny_loadPart_at cls ?_ | with_reducible refine wpAny_madeBy_exc cls ?_ | wp_step)
  refine codeAny_call_builtin_code (Code.quiet_builtin _ F.quiet) (chk_kw F hT cls ?_)
  refine new_kw F hT cls ?_ few
  show wpAny _ _ _ _ _ _
  have stay : ∀ b o, h.get? b = some o → ((h.push (kdv_tup rest)).push (excO C h.objs.size)).get? b = some o := fun b o e => Heap.get?_push_of_some _ (Heap.get?_push_of_some _ e)
  have cls1 := stay _ _ cls
  have here : ((h.push (kdv_tup rest)).push (excO C h.objs.size)).get? (h.objs.size + 1) = some (excO C h.objs.size) := by heap_get
  have inC : (Value.ref C :: bm).contains (.ref C) = true := by simp
  have ini1 := ini.keeps stay
  have bnd1 := (bnd (.ref (h.objs.size + 1))).keeps stay
  unfold isInstance
  repeat (first | with_reducible refine wpAny_loadPart_at here ?_ | (with_reducible refine wpAny_isSubtype_exc cls1 ?_; rw [inC]) | wp_step)
  show wpAny _ _ (typeLookup (.ref C) _) _ _ _
  refine ini1.at ?_
  refine wpAny_holding (wpAny_bind (bnd1.at ?_))
  refine wpAny_bind (wpAny_call (codeAny_mono post fun r s' z => ?_))
  rcases r with e | (v | _ | _ | _) <;> first | exact z | exact z.elim | skip
  obtain ⟨rfl, z⟩ := z
  first
    | exact wpAny_pure (wpAny_pure z)
    | (wp_walk; exact z)
theorem call_kw (F : ExcBaseFacts B newId initId bmB) (hT : ∀ Y : String, bm.contains (.type Y) = bmB.contains (.type Y))
    (cls : h.get? C = some (excClassObj nm q C N bs bm hdct sn sub ab col dd k0 k1 k2 k3 k5 newId))
    (ini : Looks (model prog w) h (typeLookup (.ref C) "__init__") (some (.ref fI))) (bnd : ∀ self, Looks (model prog w) h (bindSpecial (.ref fI) self) (.ref fI, [self])) (few : rest.length ≤ sizeLine)
    (post : codeAny (model prog w) (A.under (.builtin "type.__call__" ⟨.ref C :: rest, kw⟩)) (.call (.ref fI) ⟨.ref (h.objs.size + 1) :: rest, kw⟩) (InitBack (h.objs.size + 1) R) ⟨(h.push (kdv_tup rest)).push (excO C h.objs.size), g, d, t, os⟩) :
    codeAny (model prog w) A (.call (.ref C) ⟨rest, kw⟩) R ⟨h, g, d, t, os⟩ := by
  have look := tc_lookup
  have bind := tc_bind (.ref C)
  have isT : (⟨h, g, d, t, os⟩ : Shared).TypeIs (.ref C) "type" := ⟨_, cls, rfl⟩
  refine codeAny_of_tree ?_
  show wpAny _ _ (callAny (.ref C) _) _ _ _
  repeat (any_goals (first | assumption | with_reducible refine wpAny_loadPart_at cls ?_ | wp_step))
  refine ⟨rfl, ?_⟩
  refine codeAny_call_builtin_at (Code.quiet_builtin _ (by decide +kernel)) entry_typeCall (wpAny_check_type_call_sub cls (tcall_kw F hT cls ini bnd few ?_))
  refine codeAny_mono post fun r s' z => ?_
  rcases r with e | (v | _ | _ | _) <;> exact z
end
end XV
section
variable {X : Cx} {CX : CXT} {C fI : Addr} {k : Nat} {fd : FuncData} {ps : List Str} {sp : Sp}
/-- what is wanted of the class's own __init__ -/
structure XNew (X : Cx) (CX : CXT) (C fI : Addr) (k : Nat) (fd : FuncData) (ps : List Str) (sp : Sp) : Prop where
  T : OexC X.K C
  iC : PySem.W.findIn X.K (.ref C) "__init__" = some (some (.ref fI))
  tI : PySem.W.typeIn X.K (.ref fI) = some (.type "function")
  F1 : FnOk X.prog X.w X.K X.mg X.base CX k fI fd ps sp
  hr : Room (k + 1) X.A
  hx : Passes CX X (fun _ _ _ => False)
/-- C(..), as a value: the run -/
theorem run_exv {pins : List (Addr × Obj)} {σ : L2.St} {H1 : Hp} {s1 : Shared} {Q : VK} {us all : List Value} {vs : List L2.V} {kw : List (Str × Value)} (W : XNew X CX C fI k fd ps sp) (hb : ∀ (s : Shared) (u : Value), X.K.In s.heap → BindsTo s fd ⟨u :: us, kw⟩ (ps.zip (u :: all)))
    (I1 : Inv X pins σ H1 s1) (r1 : Vals vs all) (hu : us.length ≤ 1000) (q : ∀ a, H1 a = none → sp (.ref a :: vs) (upd H1 a (exo a C none)) (fun v H2 => v = .non ∧ Q (.ref a) H2) (fun _ _ _ => False)) :
    wpAny (model X.prog X.w) X.A (call (.ref C) us kw) (EP X pins σ Q) X.xe s1 := by
  obtain ⟨c1, c2, c3, c4, c5, c6, c7, c8, c9, d1, d2, d3, d4, d5, d6, hC, hbm⟩ := W.T.cls
  obtain ⟨hp, g, dr, tk, os⟩ := s1
  have up : hp.objs.size ≤ hp.objs.size + 1 := Nat.le_succ _
  have free : H1 (hp.objs.size + 1) = none := I1.hok.fresh up
  have promise := q (hp.objs.size + 1) free
  have stays : ∀ b o, hp.get? b = some o → ((hp.push (PySem.W.kdv_tup us)).push (PySem.HandSPX.excO C hp.objs.size)).get? b = some o := fun b o e => Heap.get?_push_of_some _ (Heap.get?_push_of_some _ e)
  have here : ((hp.push (PySem.W.kdv_tup us)).push (PySem.HandSPX.excO C hp.objs.size)).get? (hp.objs.size + 1) = some (PySem.HandSPX.excO C hp.objs.size) := by heap_get
  have I2 := I1.laid (t' := tk) (o := exo (hp.objs.size + 1) C none) stays up (exo_ok here)
  have r2 : Vals (V.ref (hp.objs.size + 1) :: vs) (Value.ref (hp.objs.size + 1) :: all) := .cons rfl r1
  have few : us.length ≤ sizeLine := by rw [sizeLine_eq]; omega
  refine wpAny_call (XV.call_kw F.excBase_ValueError (fun Y => PySem.HandSPX.refsVE_contains Y c5 hbm) (I1.kIn _ _ hC) (PySem.W.looks_findIn I1.kIn W.iC) (fun self => PySem.W.bind_fn I1.kIn self W.tI) few
    (codeAny_mono (W.F1.run _ X.stack _ _ ⟨Value.ref (hp.objs.size + 1) :: us, kw⟩ (Value.ref (hp.objs.size + 1) :: all) _ _ (fun _ _ _ => False) (W.hr.make C us kw) (I2.env0.make C us kw) (hb _ _ I2.kIn) r2 promise) fun r s' post => ?_))
  cases r with
  | error er => exact W.hx pins σ _ _ er s' I2 post
  | ok fl =>
    cases fl with
    | ret u =>
      obtain ⟨v, H3, I3, rv, ev, q3⟩ := I2.after post
      subst ev
      exact ⟨rv, ⟨V.ref (hp.objs.size + 1), H3, I3, rfl, q3⟩⟩
    | next => exact False.elim post
    | brk => exact False.elim post
    | cont => exact False.elim post
def tExv (C : Addr) (sp : Sp) (ta : TA) : TE := fun σ H Q => ta σ H fun vs H1 => vs.length ≤ 1000 ∧ ∀ a, H1 a = none → sp (.ref a :: vs) (upd H1 a (exo a C none)) (fun v H2 => v = .non ∧ Q (.ref a) H2) (fun _ _ _ => False)
variable {x : Str} {e : Expr} {es : List Expr} {ta : TA} {p pos : Pos}
/-- C(e, ..) -/
theorem pe_exv (W : XNew X CX C fI k fd ps sp) (hb : Binds X.K fd ps []) (hg : Gl X x) (hm : X.mg x = some (.ref C)) (ha : PA X (e :: es) ta) (hdb : (x == ("__debug__" : Str)) = false)
    (he : starEach (e :: es) X.env = (false, eval e X.env) :: starEach es X.env) (hpl : (backTo pos (starEach es X.env)).any (·.1) = false) : PE X (.Call (.Name x p) (e :: es) [] pos) (tExv C sp ta) := by
  refine ⟨fun pins s σ H Q I h => ?_⟩
  refine wpAny_Call_Name_kw (ld_glob I hg hm ?_ hdb)
  refine PySem.W.callWith_K (h₀ := X.base) I.ok.mod.kin W.T.kC (thn (ha.run pos pins s σ H _ I h) fun us s1 ⟨vs, H1, I1, r1, hz, q1⟩ => ⟨I1.kIn, ?_⟩) he hpl
  have hl : (1 + us.length) = ps.length := by
    have e1 := W.F1.len _ _ _ _ (q1 s1.heap.objs.size (I1.hok.fresh (Nat.le_refl _)))
    have e2 := Paired.length r1
    rw [List.length_cons] at e1
    omega
  refine run_exv W (fun s u K => ?_) I1 r1 (by show us.length ≤ 1000; rw [← Paired.length r1]; exact hz) q1
  have := hb s (u :: us) K (by rw [List.append_nil, List.length_cons]; omega)
  rwa [List.append_nil] at this
/-- C() -/
theorem pe_exv0 (W : XNew X CX C fI k fd ps sp) (hb : Binds X.K fd ps []) (hg : Gl X x) (hm : X.mg x = some (.ref C)) (hdb : (x == ("__debug__" : Str)) = false) : PE X (.Call (.Name x p) [] [] pos) (tExv C sp tNil) := by
  refine ⟨fun pins s σ H Q I h => ?_⟩
  obtain ⟨hz, q1⟩ := h
  refine wpAny_Call_Name_kw (ld_glob I hg hm ?_ hdb)
  have hl : 1 = ps.length := by
    have e1 := W.F1.len _ _ _ _ (q1 s.heap.objs.size (I.hok.fresh (Nat.le_refl _)))
    exact e1
  refine PySem.W.callWith_K0 I.kIn W.T.kC (run_exv (us := []) W (fun s u K => ?_) I .nil (by decide) q1)
  have := hb s [u] K (by rw [List.append_nil]; exact hl)
  rwa [List.append_nil] at this
/-- C(k = e) -/
theorem pe_exvK {nm : Option Str} {kn : Str} {kpos : Pos} {te : TE} (W : XNew X CX C fI k fd ps sp) (hp : ps.length = 2) (hb : ∀ (s : Shared) (u v : Value), X.K.In s.heap → BindsTo s fd ⟨[u], [(kn, v)]⟩ (ps.zip [u, v])) (hg : Gl X x) (hm : X.mg x = some (.ref C)) (he : PE X e te)
    (hall : (backToKw pos (keywordEach [⟨nm, e, kpos⟩] X.env)).all (·.1.isSome) = true) (hks : (backToKw pos (keywordEach [⟨nm, e, kpos⟩] X.env)).filterMap (·.1) = [kn]) (hdb : (x == ("__debug__" : Str)) = false)
    (hpl : ((backTo pos (starEach [] X.env)).any (·.1) || (backToKw pos (keywordEach [⟨nm, e, kpos⟩] X.env)).any (·.1.isNone)) = false) : PE X (.Call (.Name x p) [] [⟨nm, e, kpos⟩] pos) (tExv C sp (tCons te tNil)) := by
  refine ⟨fun pins s σ H Q I h => ?_⟩
  refine wpAny_Call_Name_kw (ld_glob I hg hm ?_ hdb)
  refine PySem.W.callWith_KW0 (h₀ := X.base) I.ok.mod.kin W.T.kC hall ?_ hpl
  refine thn ((pk_cons he pk_nil).run pos pins s σ H _ I h) fun ws s2 ⟨zs, H2, I2, rz, hz, q2⟩ => ⟨I2.kIn, ?_⟩
  rw [hks]
  have hl : (1 + ws.length) = ps.length := by
    have e1 := W.F1.len _ _ _ _ (q2 s2.heap.objs.size (I2.hok.fresh (Nat.le_refl _)))
    have e2 := Paired.length rz
    rw [List.length_cons] at e1
    omega
  obtain ⟨v, rfl⟩ : ∃ v, ws = [v] := List.length_eq_one_iff.mp (by omega)
  exact run_exv (us := []) W (fun s u K => hb s u v K) I2 rz (by decide) q2
theorem exc_inst {H : Hp} {h : PySem.Heap} {P : Program} {w : World} {a dx : Addr} {f : Str} {y : L2.V} (hok : HOk P w H h) (ea : H a = some (exo a C (some dx))) (ed : H dx = some (exd dx [(f, y)])) :
    ∃ (oe od : Obj) (u : Value), PySem.W.InstAt h a oe C (some od) ∧ PySem.W.lookIn f od = some (some u) ∧ RelV y u := by
  obtain ⟨t1, ho⟩ := exo_at hok ea
  obtain ⟨mA, hns, hr⟩ := exd_at hok ed
  obtain ⟨od, hod, hl⟩ := lookIn_ns hns
  have lk : [(f, y)].lookup f = some y := by rw [List.lookup_cons, beq_self_eq_true]
  obtain ⟨u, hu, ru⟩ := RelO.some_of (v := y) (o := mA f) (by rw [← lk]; exact hr f)
  exact ⟨_, od, u, ⟨ho, rfl, rfl, hod⟩, by rw [hl, hu], ru⟩
theorem exc0_inst {H : Hp} {h : PySem.Heap} {P : Program} {w : World} {a : Addr} (hok : HOk P w H h) (ea : H a = some (exo a C none)) : ∃ oe : Obj, PySem.W.InstAt h a oe C none := by
  obtain ⟨t1, ho⟩ := exo_at hok ea
  exact ⟨_, ho, rfl, rfl, trivial⟩
/-- isinstance of it -/
structure XIs (K : PySem.W.Frag) (C : Addr) : Prop where
  cl : (PySem.W.clsIn K C).isSome = true
  ga : PySem.W.findIn K (.ref C) "__getattribute__" = some (some (.builtin "BaseException.__getattribute__"))
  gt : PySem.W.findIn K (.ref C) "__getattr__" = some none
  sb : PySem.W.subIn K (.ref C) (.type "BaseException") = some true
  ca : PySem.W.findIn K (.ref C) "__class__" = some (some (.builtin "object.__class__"))
  gg : PySem.W.specialIn K (.builtin "object.__class__") "__get__" = some (some (.builtin "getset_descriptor.__get__"))
  tk : PySem.W.takesIn K (.builtin "object.__class__") = some true
  mr : PySem.W.mroIn K C (.type "object") = some true
theorem kit_exv {K : PySem.W.Frag} {a : Addr} {oe : Obj} {od : Option Obj} (T : XIs K C) : PySem.W.KitX K (.ref a) (.ref C) (fun h => PySem.W.InstAt h a oe C od) := PySem.W.kitx_exc T.cl T.ga T.gt T.sb T.ca T.gg T.tk T.mr
end
end MP
end
section
set_option autoImplicit false
set_option linter.all false
namespace MP
open PySem L2 PySem.Spec PyProof.Rows
section
variable {g : G} {lv : Nat} {N : List Str} {sc : Scope}
structure TxOk (g : G) (tx : Nat → Ty → Option Bool) : Prop where
  ok : ∀ c t b, tx c t = some b → XIs g.K (g.C c) ∧ PySem.W.kitOne g.K (.ref (g.C c)) (t.v g) = some b
def isiE (tx : Nat → Ty → Option Bool) (c : Nat) (u : Val) (h : Heap) : Rs Val := match tyV u with
  | some t => (match tx c t with
    | some b => .ok (.bl b) h
    | none => .bad)
  | none => .bad
def isiX (tt : Ty → Ty → Option Bool) (tx : Nat → Ty → Option Bool) (vs : List Val) (h : Heap) : Rs Val := match vs with
  | [.exc c _ _, u] => isiE tx c u h
  | [.exc0 c, u] => isiE tx c u h
  | vs => isiW tt vs h
theorem isiE_run {X : Cx} {W : WX} {tx : Nat → Ty → Option Bool} (T : TxOk g tx) (G : Good g X N sc W lv) {ρ : Nat → Addr} {h : Heap} {H : Hp} {σ σ0 : L2.St} {c : Nat} {u : Val} {a : Addr} {y : L2.V} {us : List Value} {Q : VK} {pins : List (Addr × Obj)} {s : Shared}
    (r : Rel g ρ h H) (ty : VR g ρ h.length H u y) (hi : ∀ {h' : PySem.Heap}, HOk X.prog X.w H h' → ∃ (oe : Obj) (od : Option Obj), PySem.W.InstAt h' a oe (g.C c) od) (I : Inv X pins σ H s) (rv : Vals [V.ref a, y] us) (q : QR g (VR g) W ρ h H σ0 (isiE tx c u h) Q) :
    wpAny (model X.prog X.w) X.A (call (.builtin "isinstance") us) (EP X pins σ Q) X.xe s := by
  unfold isiE at q
  cases zv : tyV u with
  | none => rw [zv] at q; exact q.elim
  | some t =>
    rw [zv] at q
    dsimp only at q
    cases zt : tx c t with
    | none => rw [zt] at q; exact q.elim
    | some b =>
      rw [zt] at q
      obtain ⟨T1, T2⟩ := T.ok c t b zt
      obtain ⟨u1, u2, rfl, r1, r2⟩ := vals2 rv
      obtain rfl : u1 = Value.ref a := r1
      have e2 : u2 = t.v g := by
        cases u with
        | ty m => cases zv; rw [VR] at ty; subst ty; exact r2
        | cls c => cases zv; rw [VR] at ty; subst ty; exact r2
        | _ => cases zv
      subst e2
      obtain ⟨oe, od, J⟩ := hi I.hok
      have T1' : XIs X.K (g.C c) := by rw [G.hK]; exact T1
      exact PySem.W.kia_one (kit_exv T1') I.kIn J (by rw [G.hK]; exact T2) (fun z => nomatch z) fun tk => ⟨.bl b, H, I.tok tk, rfl, QR.ok (T := VR g) r VR.bl q⟩
theorem bf_isX {tt : Ty → Ty → Option Bool} {tx : Nat → Ty → Option Bool} (T : TtOk g tt) (Tx : TxOk g tx) : SoF g lv (.builtin "isinstance") (isiX tt tx) := by
  intro X W N sc G ρ h H σ vs xs Q r t q
  unfold isiX at q
  split at q
  · rename_i c f v u
    rw [VRs] at t
    obtain ⟨x, xr, rfl, t1, t⟩ := t
    rw [VRs] at t
    obtain ⟨y, xr, rfl, t2, t⟩ := t
    rw [VRs] at t
    subst t
    rw [VR] at t1
    obtain ⟨a, y1, rfl, ⟨dx, e1, e2⟩, _⟩ := t1
    intro pins s σ us I rv
    exact isiE_run Tx G r t2 (fun hok => by
      obtain ⟨oe, od, _, J, _⟩ := exc_inst hok e1 e2
      exact ⟨oe, some od, J⟩) I rv q
  · rename_i c u
    rw [VRs] at t
    obtain ⟨x, xr, rfl, t1, t⟩ := t
    rw [VRs] at t
    obtain ⟨y, xr, rfl, t2, t⟩ := t
    rw [VRs] at t
    subst t
    rw [VR] at t1
    obtain ⟨a, rfl, e1⟩ := t1
    intro pins s σ us I rv
    exact isiE_run Tx G r t2 (fun hok => by
      obtain ⟨oe, J⟩ := exc0_inst hok e1
      exact ⟨oe, none, J⟩) I rv q
  · exact bf_isiW T X W N sc G ρ h H σ _ xs Q r t q
structure XfOk (g : G) (xf : Nat → Str → Bool) : Prop where
  ok : ∀ c f, xf c f = true → XfC g.K (g.C c) ∧ PySem.W.findIn g.K (.ref (g.C c)) f = some none
def attrX (tab : Nat → Option MI) (okc : Nat → Bool) (xf : Nat → Str → Bool) (f : Str) (v : Val) (h1 : Heap) : Rs Val := match v with
  | .exc c f' y => if f' = f ∧ xf c f = true then .ok y h1 else .bad
  | v => attrV tab okc f v h1
def eAttrX (tab : Nat → Option MI) (okc : Nat → Bool) (xf : Nat → Str → Bool) (f : Str) (fo : Fe) : Fe := fun env h => (fo env h).bind (attrX tab okc xf f)
theorem so_attrX {tab : Nat → Option MI} {okc : Nat → Bool} {xf : Nat → Str → Bool} {f : Str} (P : ∀ c i, tab c = some i → POk g lv c f i) (T : ∀ c, okc c = true → L2.Cls g.K (g.C c) ∧ NoAttr g.K (g.C c) f) (Xf : XfOk g xf) {fo : Fe} {o : Expr} {pos : Pos} (hb : noSuper o = true) (ho : SoE g lv N sc fo o) : SoE g lv N sc (eAttrX tab okc xf f fo) (.Attribute o f pos) := by
  intro X W G ρ h H env σ Q r er q pins s I
  refine attr_of (base_plain hb f X.env _) (thn (ho X W G ρ h H env σ (fun x H1 => ∀ (s : Shared) (u : Value), Inv X pins σ H1 s → RelV x u → wpAny (model X.prog X.w) X.A (getAttr u f true) (EP X pins σ Q) X.xe s) r er (QR.imp (QR.bind q) fun x H1 ⟨ρ1, h1, v, s1, r1, t1, _, q1⟩ => ?_) pins s I) fun u s1 ⟨x, H1, I1, rx, k⟩ => k s1 u I1 rx)
  intro s u I rx
  unfold attrX at q1
  cases v with
  | exc c f' y =>
    dsimp only at q1
    split at q1
    · rename_i hc
      obtain ⟨rfl, hx⟩ := hc
      obtain ⟨T1, T2⟩ := Xf.ok c f' hx
      rw [VR] at t1
      obtain ⟨a, z, rfl, ⟨dx, e1, e2⟩, tz⟩ := t1
      obtain rfl : u = Value.ref a := rx
      obtain ⟨oe, od, w, J, lk, ru⟩ := exc_inst I.hok e1 e2
      rw [← G.hK] at T1 T2
      exact HandSPX.exc_get I.kIn J T1.ga T1.gg T1.exC (PySem.W.findObj_own T1.hdC T2 rfl lk) (handed_of ru) ⟨z, H1, I.tok _, ru, QR.ok (T := VR g) r1 tz q1⟩
    · exact q1.elim
  | _ => exact attr_run P T G r1 t1 q1 I rx
def eNewX (c : Nat) (fld : Str) (fs : Env → Heap → Rs (List Val)) : Fe := fun env h => (fs env h).bind fun vs h1 => match vs with
  | [v] => .ok (.exc c fld v) h1
  | _ => .bad
theorem XOk.new {c : Nat} {fld : Str} (K : XOk g c fld) (hlv : 2 ≤ lv) {X : Cx} {W : WX} (G : Good g X N sc W lv) : ∃ (fI : Addr) (fd : FuncData) (sf x : Str), XNew X (L2.CX X.prog X.w) (g.C c) fI 1 fd [sf, x] (spX1 (g.C c) fld) ∧ L2.Binds X.K fd [sf, x] [] := by
  obtain ⟨fI, fd, sf, y, iC, tI, F1, bI⟩ := K.ini
  exact ⟨fI, fd, sf, y, ⟨by rw [G.hK]; exact K.T, by rw [G.hK]; exact iC, by rw [G.hK]; exact tI, G.fn F1, G.room.mono hlv, passN⟩, by rw [G.hK]; exact bI⟩
theorem newX_end {c : Nat} {fld : Str} {W : WX} {ρ1 : Nat → Addr} {h1 : Heap} {H1 : Hp} {σ : L2.St} {v : Val} {x1 : L2.V} {Q : VK} (r1 : Rel g ρ1 h1 H1) (tv : VR g ρ1 h1.length H1 v x1) (q1 : QR g (VR g) W ρ1 h1 H1 σ (.ok (.exc c fld v) h1) Q) (a : Addr) (na : H1 a = none) :
    spX1 (g.C c) fld [.ref a, x1] (upd H1 a (exo a (g.C c) none)) (fun v H2 => v = .non ∧ Q (.ref a) H2) (fun _ _ _ => False) := by
  refine ⟨a, x1, rfl, upd_same, fun dx hdx hne => ⟨rfl, ?_⟩⟩
  have hd1 : H1 dx = none := by rw [upd_ne hne] at hdx; exact hdx
  have k : ∀ b o, H1 b = some o → (upd (upd (upd H1 a (exo a (g.C c) none)) dx (exd dx [(fld, x1)])) a (exo a (g.C c) (some dx))) b = some o := fun b o e => by
    have ba : b ≠ a := fun z => by rw [z, na] at e; cases e
    have bd : b ≠ dx := fun z => by rw [z, hd1] at e; cases e
    rw [upd_ne ba, upd_ne bd, upd_ne ba]; exact e
  refine q1 ρ1 _ _ (Stp.more k) (r1.more k) ?_
  rw [VR]
  exact ⟨a, x1, rfl, ⟨dx, upd_same, by rw [upd_ne hne, upd_same]⟩, VR.mono (fun _ _ => rfl) (Nat.le_refl _) (Fx.more k) tv⟩
theorem so_newX {c : Nat} {fld : Str} (K : XOk g c fld) (hlv : 2 ≤ lv) {x : Str} {p pos : Pos} {e : Expr} {fs : Env → Heap → Rs (List Val)} (hx : sc.names.lookup x = some .globalImplicit) (hm : g.mg x = some (.ref (g.C c))) (hdb : (x == ("__debug__" : Str)) = false) (hs : isSt e = false) (ha : SoA g lv N sc fs [e]) :
    SoE g lv N sc (eNewX c fld fs) (.Call (.Name x p) [e] [] pos) := by
  intro X W G ρ h H env σ Q r er q
  obtain ⟨fI, fd, sf, y, XN, bI⟩ := K.new hlv G
  refine (pe_exv XN bI (G.gl hx) (by rw [G.hmg]; exact hm) (self_a X [e]) hdb (starEach_plain hs [] X.env) (noStar rfl pos X.env)).se ?_
  refine ha X W G ρ h H env σ _ r er (QR.imp (QR.bind q) fun xs H1 ⟨ρ1, h1, vs, s1, r1, t1, _, q1⟩ => ?_)
  match vs, t1, q1 with
  | [v], t1, q1 =>
    rw [VRs] at t1
    obtain ⟨x1, xr, rfl, tv, t2⟩ := t1
    rw [VRs] at t2
    subst t2
    exact ⟨by show 1 ≤ 1000; decide, fun a na => newX_end r1 tv q1 a na⟩
  | [], _, q1 => exact q1.elim
  | _ :: _ :: _, _, q1 => exact q1.elim
end
end MP
end
section
set_option autoImplicit false
set_option linter.all false
set_option maxRecDepth 100000
namespace MP
open PySem L2 PySem.Spec PyProof.Rows
/-- its promise, with no field -/
def spX0 (C : Addr) : Sp := fun vs H Q _ => ∃ a : Addr, vs = [.ref a] ∧ H a = some (exo a C none) ∧ Q .non H
theorem fn_sup0 {CX : CXT} {P : Program} {w : World} {K : PySem.W.Frag} {mg : Str → Option Value} {base : PySem.Heap} {C f : Addr} {fd : FuncData} {sf z : Str} {p0 p1 p2 p3 p4 p5 : Pos} {k3 : Nat}
    (X : XI P K mg C f fd sf [.Expr (.Call (.Attribute (.Call (.Name "super" p0) [] [] p1) "__init__" p2) [.Constant (.str z) k3 p3] [] p4) p5])
    (hl4 : (p2.endLine == p4.line) = true) (hz : z.length ≤ sizeLine) : FnOk P w K mg base CX 1 f fd [sf] (spX0 C) := by
  refine ⟨fun vs H Q E ⟨a, e, _⟩ => by rw [e]; rfl, fun A outer s H args us vs Q E hr e0 hb r hsp => ?_⟩
  obtain ⟨a, rfl, ea, q⟩ := hsp
  cases r with
  | @cons _ u1 _ ur r1 r2 =>
  cases r2
  obtain rfl : u1 = Value.ref a := r1
  have hx1 : ([(sf, Value.ref a)].reverse).lookup sf = some (.ref a) := by
    show List.lookup sf [(sf, Value.ref a)] = _
    rw [List.lookup_cons, beq_self_eq_true]
  refine sup_run (binds := [(sf, Value.ref a)]) X hr e0 hb (fun y hy => by rw [List.mem_singleton.mp hy]; exact X.ka) hl4 hx1 ea hz (fun h1 tk t1 L k1 e1 eL hns hsz => ?_)
  obtain ⟨hp, g, d, t, os⟩ := s
  show PySem.wpAt _ _ _ (execs [] _) _ _ _
  refine PySem.wpAt_of_wpAny (wpAny_pure ?_)
  have na : ∀ {b : Addr}, H b = none → b ≠ a := fun {b} n z => by
    rw [z, ea] at n
    cases n
  show CE outer P w H ⟨hp, g, d, t, os⟩ Q .none _
  refine ⟨.non, H, rfl, e0.bare, {
    keep := fun b o q n _ _ => k1 b o (na n) q
    slot := fun b o q n _ _ => ⟨o.slots, k1 b o (na n) q⟩
    free := fun b o q n _ => n
    there := fun b o q _ => by
      by_cases hb : b = a
      · exact ⟨_, by rw [hb]; exact e1⟩
      · exact ⟨o, k1 b o hb q⟩
    tups := fun b xs q => q
    frzs := fun b o v q => q
    tbls := fun b ps q => ⟨#[], by rw [q]; simp⟩ }, fun b o q => ?_, rfl, q⟩
  by_cases hb : b = a
  · subst hb
    rw [ea] at q
    cases q
    exact exo_ok e1
  · exact (e0.hok b o q).stay (fun c v hc z => k1 c v (by
        rcases hc with hc | hc
        · rw [hc]
          exact hb
        · exact at_ne ea hc exo_own) z) (fun c hc => hc) (fun c xs hc => hc)
section
variable {g : G} {lv : Nat} {N : List Str} {sc : Scope}
/-- an exception class with one field, made by its name -/
structure XOkK (g : G) (c : Nat) (fld kn : Str) : Prop where
  T : OexC g.K (g.C c)
  ini : ∃ (fI : Addr) (fd : FuncData) (sf x : Str), PySem.W.findIn g.K (.ref (g.C c)) "__init__" = some (some (.ref fI)) ∧ PySem.W.typeIn g.K (.ref fI) = some (.type "function") ∧ FnOk g.P g.w g.K g.mg g.base (CXg g) 1 fI fd [sf, x] (spX1 (g.C c) fld) ∧
    ∀ (s : Shared) (u v : Value), g.K.In s.heap → BindsTo s fd ⟨[u], [(kn, v)]⟩ ([sf, x].zip [u, v])
theorem so_newXK {c : Nat} {fld kn : Str} (K : XOkK g c fld kn) (hlv : 2 ≤ lv) {x : Str} {p pos kpos : Pos} {e : Expr} {f : Fe} (hx : sc.names.lookup x = some .globalImplicit) (hm : g.mg x = some (.ref (g.C c))) (hdb : (x == ("__debug__" : Str)) = false) (ha : SoE g lv N sc f e) :
    SoE g lv N sc (fun env h => (f env h).bind fun v h1 => .ok (.exc c fld v) h1) (.Call (.Name x p) [] [⟨some kn, e, kpos⟩] pos) := by
  intro X W G ρ h H env σ Q r er q
  obtain ⟨fI, fd, sf, y, iC, tI, F1, bI⟩ := K.ini
  have XN : XNew X (L2.CX X.prog X.w) (g.C c) fI 1 fd [sf, y] (spX1 (g.C c) fld) := ⟨by rw [G.hK]; exact K.T, by rw [G.hK]; exact iC, by rw [G.hK]; exact tI, G.fn F1, G.room.mono hlv, passN⟩
  refine (pe_exvK (nm := some kn) (kn := kn) XN rfl (by rw [G.hK]; exact bI) (G.gl hx) (by rw [G.hmg]; exact hm) (self_e X e) rfl rfl hdb rfl).se ?_
  refine ha X W G ρ h H env σ _ r er (QR.imp (QR.bind q) fun x1 H1 ⟨ρ1, h1, v, s1, r1, tv, _, q1⟩ => ?_)
  exact ⟨by show 1 ≤ 1000; decide, fun a na => newX_end r1 tv q1 a na⟩
/-- an exception class with no field -/
structure XOk0 (g : G) (c : Nat) : Prop where
  T : OexC g.K (g.C c)
  ini : ∃ (fI : Addr) (fd : FuncData) (sf : Str), PySem.W.findIn g.K (.ref (g.C c)) "__init__" = some (some (.ref fI)) ∧ PySem.W.typeIn g.K (.ref fI) = some (.type "function") ∧ FnOk g.P g.w g.K g.mg g.base (CXg g) 1 fI fd [sf] (spX0 (g.C c)) ∧ L2.Binds g.K fd [sf] []
theorem new0_end {c : Nat} {W : WX} {ρ1 : Nat → Addr} {h1 : Heap} {H1 : Hp} {σ : L2.St} {Q : VK} (r1 : Rel g ρ1 h1 H1) (q1 : QR g (VR g) W ρ1 h1 H1 σ (.ok (.exc0 c) h1) Q) (a : Addr) (na : H1 a = none) : Q (.ref a) (upd H1 a (exo a (g.C c) none)) := by
  have k : ∀ b o, H1 b = some o → upd H1 a (exo a (g.C c) none) b = some o := fun b o e => by
    rw [upd_ne (fun z => by rw [z, na] at e; cases e)]; exact e
  refine q1 ρ1 _ _ (Stp.more k) (r1.more k) ?_
  rw [VR]
  exact ⟨a, rfl, upd_same⟩
theorem so_newX0 {c : Nat} (K : XOk0 g c) (hlv : 2 ≤ lv) {x : Str} {p pos : Pos} (hx : sc.names.lookup x = some .globalImplicit) (hm : g.mg x = some (.ref (g.C c))) (hdb : (x == ("__debug__" : Str)) = false) : SoE g lv N sc (fun _ h => .ok (.exc0 c) h) (.Call (.Name x p) [] [] pos) := by
  intro X W G ρ h H env σ Q r er q
  obtain ⟨fI, fd, sf, iC, tI, F1, bI⟩ := K.ini
  have XN : XNew X (L2.CX X.prog X.w) (g.C c) fI 1 fd [sf] (spX0 (g.C c)) := ⟨by rw [G.hK]; exact K.T, by rw [G.hK]; exact iC, by rw [G.hK]; exact tI, G.fn F1, G.room.mono hlv, passN⟩
  refine (pe_exv0 XN (by rw [G.hK]; exact bI) (G.gl hx) (by rw [G.hmg]; exact hm) hdb).se ?_
  exact ⟨by show 0 ≤ 1000; decide, fun a na => ⟨a, rfl, upd_same, rfl, new0_end r q a na⟩⟩
/-- an exception class without an own __init__, made with something -/
structure XOkT (g : G) (c : Nat) : Prop where
  q : ∃ bmB, ExcBaseFacts "ValueError" "ValueError.__new__" "ValueError.__init__" bmB ∧ PySem.W.excIn g.K (g.C c) bmB "ValueError.__new__" = true
  k : PySem.W.keepIn g.K (.ref (g.C c)) = true
theorem so_newXT {c : Nat} (K : XOkT g c) {x : Str} {p pos : Pos} {e : Expr} {f : Fe} (hx : sc.names.lookup x = some .globalImplicit) (hm : g.mg x = some (.ref (g.C c))) (hdb : (x == ("__debug__" : Str)) = false) (hs : isSt e = false) (ha : SoE g lv N sc f e) :
    SoE g lv N sc (fun env h => (f env h).bind fun _ h1 => .ok (.exc0 c) h1) (.Call (.Name x p) [e] [] pos) := by
  intro X W G ρ h H env σ Q r er q pins s I
  obtain ⟨bmB, F, eq⟩ := K.q
  have hst : starEach [e] X.env = (false, eval e X.env) :: starEach [] X.env := starEach_plain hs [] X.env
  refine wpAny_Call_Name_kw (ld_glob I (G.gl hx) (by rw [G.hmg]; exact hm) ?_ hdb)
  refine PySem.W.callWith_K (h₀ := X.base) I.ok.mod.kin (by rw [G.hK]; exact K.k) ?_ hst (by rfl)
  rw [hst]
  show wpAny _ _ (spliced ((false, eval e X.env) :: backTo pos (starEach [] X.env))) _ _ s
  refine Calls.spliced_cons (thn (ha X W G ρ h H env σ (fun _ H1 => ∀ a, H1 a = none → Q (.ref a) (upd H1 a (exo a (g.C c) none))) r er (QR.imp (QR.bind q) fun x1 H1 ⟨ρ1, h1, v, s1, r1, tv, _, q1⟩ => fun a na => new0_end r1 q1 a na) pins s I) fun u s1 ⟨v, H1, I1, r1, q1⟩ => ?_)
  refine Calls.spliced_nil ⟨I1.kIn, ?_⟩
  show wpAny _ _ (call (.ref (g.C c)) [u]) _ _ _
  obtain ⟨bm, n1, n2, n3, n4, n5, n6, n7, n8, n9, m1, m2, m3, m4, m5, m6, m7, hC, hN, hni, T⟩ := exc_obj I1.kIn (by rw [G.hK]; exact eq)
  refine wpAny_call_exc_subT F T hC hN hni (fun h' a hm => ?_) (by show 1 ≤ sizeLine; rw [sizeLine_eq]; omega)
  have hn : H1 a = none := I1.hok.gone hm.new
  obtain ⟨t, ht, _, _⟩ := hm.there
  exact ⟨.ref a, upd H1 a (exo a (g.C c) none), I1.laidN hm.keeps hm.new hn (exo_ok ht), rfl, q1 a hn⟩
end
end MP
end
section
set_option autoImplicit false
set_option linter.all false
namespace MP
open PySem L2
inductive GN where
  | fn (i : Nat) | cls (c : Nat) | con (v : Val) | blt
def isBlt : Option GN → Bool
  | some .blt => true
  | _ => false
structure FI where
  np : Nat
  dv : List Val
def FI.fill (f : FI) (m : Nat) : List Val := f.dv.drop (f.dv.length - (f.np - m))
structure Tb where
  gn : Str → Option GN
  fi : Nat → Option FI
  ini : Nat → Option Nat
  cm : Nat → Str → Option Nat
  oe : Nat → Option Nat
  ob : Operator → Nat → Option Nat
  na : Nat → Str → Bool
  tt : Ty → Ty → Option Bool
  nf : Nat → Ty → Bool
  pr : Nat → Str → Option Nat
  obt : Operator → Nat → Bool
  xn : Str → Option (Nat × Str)
  xm : Nat → Nat → Option Bool
  ct : Nat → Str → Option Nat
  hasX : Bool := false
  tx : Nat → Ty → Option Bool := fun _ _ => none
  xf : Nat → Str → Bool := fun _ _ => false
  xk : Str → Option (Nat × Str × Str) := fun _ => none
  x0 : Str → Option Nat := fun _ => none
  xt : Str → Option Nat := fun _ => none
abbrev Cf := Nat → List Val → Heap → Rs Val
abbrev Ft := Env → Heap → Rs Bool
abbrev Fa := Env → Heap → Rs (List Val)
def idx : List Str → Str → Option Nat
  | [], _ => none
  | y :: r, x => if y = x then some 0 else (idx r x).map (· + 1)
def xBad : Fe := fun _ _ => .bad
def xVar (i : Nat) : Fe := fun env h => opt (env[i]?.join) h
def xLit (v : Val) : Fe := fun _ h => .ok v h
def xBin (fo : Val → Val → Heap → Rs Val) (fa fb : Fe) : Fe := fun env h => (fa env h).bind fun x h1 => (fb env h1).bind fun y h2 => fo x y h2
def tCmp (fo : Val → Val → Heap → Rs Val) (fa fb : Fe) : Ft := fun env h => eBl ((fa env h).bind fun x h1 => (fb env h1).bind fun y h2 => fo x y h2)
def tChn (fo fo' : Val → Val → Heap → Rs Val) (fa fb fc : Fe) : Ft := fun env h => eBl (eChain fo fo' fa fb fc env h)
def tBad : Ft := fun _ _ => .bad
def xNew (b : B) : Fe := fun _ h => al h b
def xThen (f : Fe) (k : Val → Heap → Rs Val) : Fe := fun env h => (f env h).bind k
def xBf (fs : Fa) (fo : List Val → Heap → Rs Val) : Fe := fun env h => (fs env h).bind fo
def aNil : Fa := fun _ h => .ok [] h
def aBad : Fa := fun _ _ => .bad
def iVal (f : Fe) : Fi := fun env h => (f env h).bind srcV
def iItems (f : Fe) : Fi := fun env h => (f env h).bind srcI
def iVals (f : Fe) : Fi := fun env h => (f env h).bind srcW
def iRng1 (fs : Fa) : Fi := fun env h => (fs env h).bind fun vs h1 => match vs with
  | [.int j] => if -(2 ^ 62) ≤ j ∧ j < 2 ^ 62 then .ok ⟨rngV 0 j.toNat, none⟩ h1 else .bad
  | _ => .bad
def iRng2 (fs : Fa) : Fi := fun env h => (fs env h).bind fun vs h1 => match vs with
  | [.int i, .int j] => if -(2 ^ 62) ≤ i ∧ i < 2 ^ 62 ∧ -(2 ^ 62) ≤ j ∧ j < 2 ^ 62 then .ok ⟨rngV i (j - i).toNat, none⟩ h1 else .bad
  | _ => .bad
def iEnm (fs : Fa) : Fi := fun env h => (fs env h).bind enumV
def iZip (fs : Fa) : Fi := fun env h => (fs env h).bind zipV
def isTup : Expr → Bool
  | .Tuple _ _ _ => true
  | _ => false
/-- a comprehension over zip(..) -/
def zipG : List Comprehension → Bool
  | [⟨_, .Call (.Name x _) _ _ _, _, _⟩] => decide (x = "zip")
  | _ => false
def relIf (b : Bool) (f : Fe) : Fe := if b then relL f else f
def gNm (i : Nat) : Fg := fun v env h => .ok (env.set i (some v)) h
def gsNil : Fgs := fun vs env h => match vs with
  | [] => .ok env h
  | _ => .bad
def gsCons (f : Fg) (fs : Fgs) : Fgs := fun vs env h => match vs with
  | v :: r => (f v env h).bind fun env1 h1 => fs r env1 h1
  | [] => .bad
def gTp (n : Nat) (fs : Fgs) : Fg := fun v env h => match v with
  | .tup vs => if vs.length = n then fs vs env h else .bad
  | _ => .bad
def pNone : Env → Heap → Rs (Option Int) := fun _ h => .ok none h
def tTrue : Ft := fun _ h => .ok true h
def sBad : Fs := fun _ _ => .bad
def sNx : Fs := fun env h => .nx env h
def sSeq (f1 f2 : Fs) : Fs := fun env h => (f1 env h).andThen f2
def sBk : Fs := fun env h => .bk env h
def sCt : Fs := fun env h => .ct env h
def sExpr (f : Fe) : Fs := fun env h => liftS (f env h) env fun _ h1 => .nx env h1
def sRet (f : Fe) : Fs := fun env h => liftS (f env h) env fun v h1 => .rt v h1
def sRetN : Fs := fun env h => .rt .non h
def sIf (fc : Ft) (fa fb : Fs) : Fs := fun env h => liftS (fc env h) env fun k h1 => if k then fa env h1 else fb env h1
def sPar2 (i j : Nat) (fs : Fa) : Fs := fun env h => liftS (fs env h) env fun vs h1 => match vs with
  | [v, w] => .nx ((env.set i (some v)).set j (some w)) h1
  | _ => .bad
def sPar3 (i j l : Nat) (fs : Fa) : Fs := fun env h => liftS (fs env h) env fun vs h1 => match vs with
  | [v, w, u] => .nx (((env.set i (some v)).set j (some w)).set l (some u)) h1
  | _ => .bad
def sSetE (i : Nat) (f : Fe) : Fs := fun env h => liftS (f env h) env fun v h1 => .nx (env.set i (some v)) h1
structure Ev where
  E : Scope → Expr → Fe
  T : Scope → Expr → Ft
  Ss : Scope → List Stmt → Fs
section
variable (tb : Tb) (cf : Cf) (N : List Str) (wf : Nat) (r : Ev)
def tyName (x : Str) : Option String :=
  if x = "int" then some "int" else if x = "str" then some "str" else if x = "list" then some "list" else if x = "tuple" then some "tuple" else if x = "dict" then some "dict" else if x = "bool" then some "bool" else if x = "ValueError" then some "ValueError" else none
def vSlot (x : Str) : Fe := match idx N x with
  | some i => xVar i
  | none => xBad
def vName (sc : Scope) (x : Str) : Fe :=
  if (x == ("__debug__" : Str)) = true ∨ (x == ("__classdict__" : Str)) = true then xBad else match sc.names.lookup x with
    | some .globalImplicit => (match tb.gn x with
      | some (.cls c) => xLit (.cls c)
      | some (.con v) => xLit v
      | some .blt => (match tyName x with
        | some t => xLit (.ty t)
        | none => xBad)
      | _ => xBad)
    | some .local => vSlot N x
    | some .cell => vSlot N x
    | some .free => vSlot N x
    | _ => xBad
def vConst : Const → Fe
  | .int i => xLit (.int i)
  | .bool b => xLit (.bl b)
  | .none => xLit .non
  | .str x => if x.length ≤ lim then xLit (.str x) else xBad
  | _ => xBad
def evAs (f : Expr → Fe) : List Expr → Fa
  | [] => aNil
  | .Starred e _ :: es => eStar (f e) (evAs f es)
  | e :: es => if isSt e then aBad else eCons (f e) (evAs f es)
def obF (op : Operator) (c : Nat) : Option MI := (tb.ob op c).bind fun i => (tb.fi i).map fun f => ⟨f.np, cf i, f.fill 2⟩
def oeF (c : Nat) : Option MI := (tb.oe c).bind fun i => (tb.fi i).map fun f => ⟨f.np, cf i, f.fill 2⟩
def cmF (m : Str) (n : Nat) (c : Nat) : Option MI := (tb.cm c m).bind fun i => (tb.fi i).map fun f => ⟨f.np, cf i, f.fill (n + 1)⟩
def ctF (m : Str) (n : Nat) (c : Nat) : Option MI := (tb.ct c m).bind fun i => (tb.fi i).map fun f => ⟨f.np, cf i, f.fill (n + 1)⟩
def inF (n : Nat) (c : Nat) : Option MI := (tb.ini c).bind fun i => (tb.fi i).map fun f => ⟨f.np, cf i, f.fill (n + 1)⟩
def prF (m : Str) (c : Nat) : Option MI := (tb.pr c m).bind fun i => (tb.fi i).map fun f => ⟨f.np, cf i, f.fill 1⟩
def noBin : Val → Val → Heap → Rs Val := fun _ _ _ => .bad
def binF (op : Operator) : Option (Val → Val → Heap → Rs Val) := match op with
  | .Add => some (ownBinT (obF tb cf .Add) (tb.obt .Add) (bop .add))
  | .Sub => some (ownBinT (obF tb cf .Sub) (tb.obt .Sub) (bop .sub))
  | .Mult => some (ownBinT (obF tb cf .Mult) (tb.obt .Mult) mulW)
  | .BitOr => some (ownBinT (obF tb cf .BitOr) (tb.obt .BitOr) noBin)
  | .FloorDiv => some (bop .fdiv)
  | .Mod => some (bop .mod)
  | .Pow => some (bop .pow)
  | _ => none
/-- comparisons that never call -/
def cmp0 (op : CmpOp) : Option (Val → Val → Heap → Rs Val) := match op with
  | .Eq => some eqII
  | .Lt => some (cop .lt)
  | .LtE => some (cop .le)
  | .Gt => some (cop .gt)
  | .GtE => some (cop .ge)
  | .Is => some (cop .is)
  | .IsNot => some (cop .isn)
  | .In => some (cop .in_)
  | .NotIn => some (cop .nin)
  | _ => none
def cmpF (op : CmpOp) : Val → Val → Heap → Rs Val := match op with
  | .Eq => eqOpD (oeF tb cf) tb.nf false
  | .NotEq => eqOpD (oeF tb cf) tb.nf true
  | .Lt => cop .lt
  | .LtE => cop .le
  | .Gt => cop .gt
  | .GtE => cop .ge
  | .Is => cop .is
  | .IsNot => cop .isn
  | .In => cop .in_
  | .NotIn => cop .nin
/-- a list or tuple of tuples, written out -/
def tupD : Expr → Bool
  | .List (.Tuple _ _ _ :: _) _ => true
  | .Tuple (.Tuple _ _ _ :: _) _ _ => true
  | _ => false
def cmpX (op : CmpOp) (b : Expr) : Val → Val → Heap → Rs Val := match op with
  | .In => if tupD b then inOpD false else cmpF tb cf .In
  | .NotIn => if tupD b then inOpD true else cmpF tb cf .NotIn
  | op => cmpF tb cf op
def andE (f : Expr → Fe) : List Expr → Fe
  | [] => xBad
  | [e] => f e
  | e :: es => eAnd (f e) (andE f es)
def orE (f : Expr → Fe) : List Expr → Fe
  | [] => xBad
  | [e] => f e
  | e :: es => eOr (f e) (orE f es)
def andT (f : Expr → Ft) : List Expr → Ft
  | [] => tBad
  | [e] => f e
  | e :: es => tAndF (f e) (andT f es)
def orT (f : Expr → Ft) : List Expr → Ft
  | [] => tBad
  | [e] => f e
  | e :: es => tOrF (f e) (orT f es)
def bfOf2 (x : Str) : Option (List Val → Heap → Rs Val) :=
  if x = "isinstance" then some (if tb.hasX then isiX tb.tt tb.tx else isiW tb.tt) else if x = "str" then some (f1 fmtV) else if x = "min" then some (f1 minV) else if x = "max" then some (f1 maxV) else none
def bfOf (x : Str) : Option (List Val → Heap → Rs Val) :=
  if x = "len" then some (f1 lenV) else if x = "int" then some (f1 intV) else if x = "list" then some (f1 listV) else if x = "tuple" then some (f1 tupleV) else if x = "dict" then some (f1 dictV) else
  if x = "sorted" then some (f1 sortedV) else if x = "sum" then some (f1 sumV) else if x = "all" then some (f1 allV) else if x = "any" then some (f1 anyV) else bfOf2 tb x
def bmOf (m : Str) : Option (BK → Option Fm) :=
  if m = "append" then some (fun k => match k with | .l => some mAppend | _ => none) else
  if m = "clear" then some (fun k => match k with | .l => some mClearL | .d => some mClearD | _ => none) else
  if m = "extend" then some (fun k => match k with | .l => some mExtend | _ => none) else
  if m = "pop" then some (fun k => match k with | .l => some mPop | _ => none) else
  if m = "get" then some (fun k => match k with | .d => some mGet | _ => none) else
  if m = "join" then some (fun k => match k with | .s => some mJoin | _ => none) else
  if m = "split" then some (fun k => match k with | .s => some mSplit | _ => none) else
  if m = "partition" then some (fun k => match k with | .s => some mPartition | _ => none) else none
/-- e.values(), e.items(), range(e) -/
inductive LK where
  | vals | itms | rng | no
def listArg (sc : Scope) (rb : Bool) : List Expr → LK × Expr × Bool
  | [.Call (.Attribute e m apos) [] [] cpos] => if m = "values" then (.vals, e, noSuper e && (apos.endLine == cpos.line)) else if m = "items" then (.itms, e, noSuper e && (apos.endLine == cpos.line)) else (.no, e, true)
  | [.Call (.Name x p) [e] [] pos] => if x = "range" then (.rng, e, rb && (decide (sc.names.lookup x = some .globalImplicit) && !isSt e)) else (.no, e, true)
  | es => (.no, .Constant .none 0 ⟨0, 0, 0, 0⟩, true)
/-- set(e) -/
def setArg (sc : Scope) (rb : Bool) : List Expr → Option (Expr × Bool)
  | [.Call (.Name x p) [e] [] pos] => if x = "set" then some (e, rb && (decide (sc.names.lookup x = some .globalImplicit) && !isSt e)) else none
  | _ => none
def vCall (sc : Scope) (x : Str) (args : List Expr) : Fe :=
  if sc.names.lookup x = some .globalImplicit ∧ (x == ("__debug__" : Str)) = false ∧ args.all (fun e => !isSt e) = true then match tb.gn x with
    | some (.fn i) => (match tb.fi i with
      | some f => eCall f.np (cf i) (f.fill args.length) (evAs (r.E sc) args)
      | none => xBad)
    | some (.cls c) => (match args, tb.ini c with
      | _ :: _, some i => (match tb.fi i with
        | some f => eMake c f.np (cf i) (f.fill (args.length + 1)) (evAs (r.E sc) args)
        | none => xBad)
      | _, _ => xBad)
    | some .blt => (match args with
      | [] => xBad
      | _ :: _ => if x = "list" then (match listArg sc (isBlt (tb.gn "range")) args with
          | (.no, _, _) => xBf (evAs (r.E sc) args) (f1 listV)
          | (.vals, e, true) => xThen (r.E sc e) listValsV
          | (.itms, e, true) => xThen (r.E sc e) listItmsV
          | (.rng, e, true) => xThen (r.E sc e) listRngV
          | (_, _, false) => xBad) else if x = "len" then (match setArg sc (isBlt (tb.gn "set")) args with
          | none => xBf (evAs (r.E sc) args) (f1 lenV)
          | some (e, true) => xThen (r.E sc e) lenSetV
          | some (_, false) => xBad) else if x = "sorted" then (match setArg sc (isBlt (tb.gn "set")) args with
          | none => xBf (evAs (r.E sc) args) (f1 sortedV)
          | some (e, true) => xThen (r.E sc e) sortSetV
          | some (_, false) => xBad) else (match bfOf tb x with
          | some f => xBf (evAs (r.E sc) args) f
          | none => xBad))
    | _ => xBad
  else if sc.names.lookup x = some .local ∧ (x == ("__debug__" : Str)) = false ∧ (x == ("__classdict__" : Str)) = false ∧ args.all (fun e => !isSt e) = true then (match args, idx N x with
    | _ :: _, some j => eMakeL j (inF tb cf args.length) (evAs (r.E sc) args)
    | _, _ => xBad)
  else xBad
/-- a class by its name -/
def clsN (sc : Scope) : Expr → Option Nat
  | .Name x _ => if sc.names.lookup x = some .globalImplicit ∧ (x == ("__debug__" : Str)) = false then (match tb.gn x with
    | some (.cls c) => some c
    | _ => none) else none
  | _ => none
/-- an exception is made -/
def vNew (sc : Scope) (x : Str) (args : List Expr) : Option Fe :=
  if tb.hasX = true ∧ sc.names.lookup x = some .globalImplicit ∧ (x == ("__debug__" : Str)) = false then match args with
    | [] => (tb.x0 x).map fun c => fun _ h => .ok (.exc0 c) h
    | [e] => if isSt e = false then (match tb.xn x with
      | some (c, fld) => some (eNewX c fld (evAs (r.E sc) [e]))
      | none => (tb.xt x).map fun c => fun env h => (r.E sc e env h).bind fun _ h1 => .ok (.exc0 c) h1) else none
    | _ => none
  else none
def vNewK (sc : Scope) (x : Str) (args : List Expr) (kws : List Keyword) : Fe := match args, kws with
  | [], [⟨some kn, e, _⟩] => if tb.hasX = true ∧ sc.names.lookup x = some .globalImplicit ∧ (x == ("__debug__" : Str)) = false then match tb.xk x with
      | some (c, fld, kn') => if kn = kn' then (fun env h => (r.E sc e env h).bind fun v h1 => .ok (.exc c fld v) h1) else xBad
      | none => xBad
    else xBad
  | _, _ => xBad
def vMeth (sc : Scope) (o : Expr) (m : Str) (apos : Pos) (args : List Expr) (pos : Pos) : Fe :=
  if noSuper o = true ∧ (apos.endLine == pos.line) = true ∧ args.all (fun e => !isSt e) = true ∧ args.length < 29 then match clsN tb sc o with
    | some c => (match args, ctF tb cf m args.length c with
      | _ :: _, some i => eCm c i (evAs (r.E sc) args)
      | _, _ => xBad)
    | none => (match bmOf m with
      | some tab => eBm tab (r.E sc o) (evAs (r.E sc) args)
      | none => eMeth (cmF tb cf m args.length) m (r.E sc o) (evAs (r.E sc) args))
  else xBad
mutual
def gOf (sc : Scope) : Nat → Expr → Option (Fg × List Nat)
  | _, .Name x _ => if sc.names.lookup x = some .local ∨ sc.names.lookup x = some .cell then (idx N x).map fun i => (gNm i, [i]) else none
  | n + 1, .Tuple es _ _ => if es.all (fun e => !isSt e) = true then (gsOf sc n es).map fun p => (gTq es.length p.1, p.2) else none
  | _, _ => none
def gsOf (sc : Scope) : Nat → List Expr → Option (Fgs × List Nat)
  | _, [] => some (gsNil, [])
  | 0, _ => none
  | n + 1, e :: es => (match gOf sc n e, gsOf sc n es with
    | some (f, sl), some (fs, sl') => if isSt e then none else some (gsCons f fs, sl ++ sl')
    | _, _ => none)
end
def gqOf (sc : Scope) (es : List Expr) : Option (Fg × List Nat) := if es.all (fun e => !isSt e) = true then (gsOf N sc 7 es).map fun p => (gTq es.length p.1, p.2) else none
def iOf (sc : Scope) (tg it : Expr) : Fi := match it with
  | .Call (.Attribute e m apos) [] [] cpos => if noSuper e = true ∧ (apos.endLine == cpos.line) = true ∧ m = "items" then (match tg with
      | .Tuple _ _ _ => iItems (r.E sc e)
      | _ => iVal (r.E sc it))
    else if noSuper e = true ∧ (apos.endLine == cpos.line) = true ∧ m = "values" then iVals (r.E sc e) else iVal (r.E sc it)
  | .Call (.Name x p) [a] [] pos => if x = "range" ∧ sc.names.lookup x = some .globalImplicit ∧ isBlt (tb.gn x) = true ∧ isSt a = false then iRng1 (evAs (r.E sc) [a])
    else if x = "enumerate" ∧ sc.names.lookup x = some .globalImplicit ∧ isBlt (tb.gn x) = true ∧ isSt a = false ∧ isTup tg = true then iEnm (evAs (r.E sc) [a]) else iVal (r.E sc it)
  | .Call (.Name x p) [a, b] [] pos => if x = "range" ∧ sc.names.lookup x = some .globalImplicit ∧ isBlt (tb.gn x) = true ∧ isSt a = false ∧ isSt b = false then iRng2 (evAs (r.E sc) [a, b])
    else if x = "zip" ∧ sc.names.lookup x = some .globalImplicit ∧ isBlt (tb.gn x) = true ∧ isSt a = false ∧ isSt b = false ∧ isTup tg = true then iZip (evAs (r.E sc) [a, b]) else iVal (r.E sc it)
  | _ => iVal (r.E sc it)
def pOf (sc : Scope) : Option Expr → Env → Heap → Rs (Option Int)
  | none => pNone
  | some e => ePart (r.E sc e)
def ifsOf (sc : Scope) : List Expr → Option Ft
  | [] => some tTrue
  | [c] => some (r.T sc c)
  | _ => none
/-- the names of a comprehension's own -/
def ownOf (scope : Scope) : List (Str × Nat) := scope.names.filterMap fun y => match y.2 with
  | .local => (idx N y.1).map fun i => (y.1, i)
  | .cell => (idx N y.1).map fun i => (y.1, i)
  | _ => none
structure Cp where
  fi : Fi
  ft : Fg
  fc : Ft
  own : List Nat
def cpOf (sc : Scope) (gens : List Comprehension) (scope : Scope) : Option Cp := match gens with
  | [⟨tg, it, ifs, a⟩] => if a = 0 ∧ isSet it = false ∧ blkC N sc scope (ownOf N scope) = true then (match gOf N scope 8 tg, ifsOf r scope ifs with
      | some (ft, sl), some fc => if sl.all (fun i => decide (i ∈ (ownOf N scope).map (·.2))) = true then some ⟨iOf tb r sc tg it, ft, fc, (ownOf N scope).map (·.2)⟩ else none
      | _, _ => none) else none
  | _ => none
structure Cp2 where
  fi : Fi
  ft : Fg
  fc : Ft
  fi1 : Fi
  ft1 : Fg
  fc1 : Ft
  own : List Nat
  sl1 : List Nat
def cp2Of (sc : Scope) (gens : List Comprehension) (scope : Scope) : Option Cp2 := match gens with
  | [⟨tg, it, ifs, a⟩, ⟨tg1, it1, ifs1, a1⟩] => if (a = 0 ∧ a1 = 0) ∧ (isSet it = false ∧ isSet it1 = false) ∧ blkC N sc scope (ownOf N scope) = true then (match gOf N scope 8 tg, ifsOf r scope ifs, gOf N scope 8 tg1, ifsOf r scope ifs1 with
      | some (ft, sl), some fc, some (ft1, sl1), some fc1 => if (sl.all (fun i => decide (i ∈ (ownOf N scope).map (·.2))) && sl1.all (fun i => decide (i ∈ (ownOf N scope).map (·.2)))) = true then some ⟨iOf tb r sc tg it, ft, fc, iOf tb r scope tg1 it1, ft1, fc1, (ownOf N scope).map (·.2), sl1⟩ else none
      | _, _, _, _ => none) else none
  | _ => none
def isRev : Option Expr → Option Expr → Option Expr → Bool
  | none, none, some (.UnaryOp .USub (.Constant (.int i) _ _) _) => decide (i = 1)
  | _, _, _ => false
def dispF (f : Expr → Fe) : List (Option Expr) → List Expr → Option (List (Fe × Fe))
  | [], [] => some []
  | some k :: ks, v :: vs => (dispF f ks vs).map fun r => (f k, f v) :: r
  | _, _ => none
def stepE (sc : Scope) (e : Expr) : Fe := match e with
  | .Name x _ => vName tb N sc x
  | .Constant c _ _ => vConst c
  | .BinOp a op b _ => (match binF tb cf op with
    | some fo => xBin fo (r.E sc a) (r.E sc b)
    | none => xBad)
  | .UnaryOp op a _ => (match op with
    | .Not => eNot (r.E sc a)
    | .USub => xThen (r.E sc a) negV
    | _ => xBad)
  | .BoolOp op es _ => (match op with
    | .And => andE (r.E sc) es
    | .Or => orE (r.E sc) es)
  | .Compare a ops bs _ => (match ops, bs with
    | [op], [b] => if behindInMarks op b = false then xBin (cmpX tb cf op b) (r.E sc a) (r.E sc b) else xBad
    | [op, op'], [b, c] => (match cmp0 op, cmp0 op' with
      | some fo, some fo' => if lastMarks [op, op'] [b, c] = false then eChain fo fo' (r.E sc a) (r.E sc b) (r.E sc c) else xBad
      | _, _ => xBad)
    | _, _ => xBad)
  | .IfExp c a b _ => eIf (r.T sc c) (r.E sc a) (r.E sc b)
  | .Tuple es _ _ => (match es with
    | [] => xLit (.tup [])
    | _ :: _ => eTup (evAs (r.E sc) es))
  | .List es _ => eLst (evAs (r.E sc) es)
  | .Dict ks vs _ => (match ks, vs with
    | [], [] => xNew (.dct [])
    | [none, none], [a, b] => eMix (r.E sc a) (r.E sc b)
    | k :: ks, vs => if (k :: ks).length ≤ 15 then (match dispF (r.E sc) (k :: ks) vs with
      | some fs => eDisp fs
      | none => xBad) else xBad
    | _, _ => xBad)
  | .JoinedStr vs _ => (match vs with
    | [] => xBad
    | [v] => r.E sc v
    | v :: u :: vs => eJs ((v :: u :: vs).map (r.E sc)) Str.empty)
  | .FormattedValue e conv spec _ => (match spec with
    | none => if conv = -1 then xThen (r.E sc e) fmtV else xBad
    | some _ => xBad)
  | .Call f args kws pos => (match f, kws with
    | .Name x _, [] => (match vNew tb r sc x args with
      | some fe => fe
      | none => vCall tb cf N r sc x args)
    | .Name x _, k :: ks => vNewK tb r sc x args (k :: ks)
    | .Attribute o m apos, [] => vMeth tb cf r sc o m apos args pos
    | _, _ => xBad)
  | .Attribute o f _ => if noSuper o = true then (if tb.hasX then eAttrX (prF tb cf f) (fun c => tb.na c f) tb.xf f (r.E sc o) else eAttr (prF tb cf f) (fun c => tb.na c f) f (r.E sc o)) else xBad
  | .Subscript a i _ => (match i with
    | .Slice lo hi st _ => (match st with
      | none => eSl (r.E sc a) (pOf r sc lo) (pOf r sc hi)
      | some _ => if isRev lo hi st then eRev (r.E sc a) else xBad)
    | _ => xBin ixV (r.E sc a) (r.E sc i))
  | .ListComp elt gens scope _ => (match cpOf tb N r sc gens scope with
    | some c => relIf (zipG gens) (eLc c.fi c.ft c.fc (r.E scope elt) c.own)
    | none => (match cp2Of tb N r sc gens scope with
      | some c => eLc2 c.fi c.ft c.fc c.fi1 c.ft1 c.fc1 (r.E scope elt) c.own c.sl1
      | none => xBad))
  | .DictComp k v gens scope _ => (match cpOf tb N r sc gens scope with
    | some c => eDc c.fi c.ft c.fc (r.E scope k) (r.E scope v) c.own
    | none => xBad)
  | _ => xBad
def stepT (sc : Scope) (e : Expr) : Ft := match e with
  | .UnaryOp op a _ => (match op with
    | .Not => tNotF (r.T sc a)
    | _ => eTru (r.E sc e))
  | .BoolOp op es _ => (match op with
    | .And => andT (r.T sc) es
    | .Or => orT (r.T sc) es)
  | .Compare a ops bs _ => (match ops, bs with
    | [op], [b] => if behindInMarks op b = false then tCmp (cmpX tb cf op b) (r.E sc a) (r.E sc b) else tBad
    | [op, op'], [b, c] => (match cmp0 op, cmp0 op' with
      | some fo, some fo' => if lastMarks [op, op'] [b, c] = false then tChn fo fo' (r.E sc a) (r.E sc b) (r.E sc c) else tBad
      | _, _ => tBad)
    | _, _ => tBad)
  | .IfExp _ _ _ _ => tBad
  | _ => eTru (r.E sc e)
def foldAll (vs : List Expr) : Bool := vs.all (foldedForSure 8)
def par2 (sc : Scope) (ts vs : List Expr) : Option (Nat × Nat) := match ts, vs with
  | [.Name x px, .Name y py], [a, b] => if sc.names.lookup x = some .local ∧ sc.names.lookup y = some .local ∧ x ≠ y ∧ (px.line == py.line) = true ∧ foldAll [a, b] = false ∧ [a, b].all (constantsAlone 8) = false ∧ isSt a = false ∧ isSt b = false then (match idx N x, idx N y with
      | some i, some j => some (i, j)
      | _, _ => none) else none
  | _, _ => none
def par3 (sc : Scope) (ts vs : List Expr) : Option (Nat × Nat × Nat) := match ts, vs with
  | [.Name x px, .Name y py, .Name z pz], [a, b, c] => if sc.names.lookup x = some .local ∧ sc.names.lookup y = some .local ∧ sc.names.lookup z = some .local ∧ x ≠ y ∧ x ≠ z ∧ y ≠ z ∧ (px.line == py.line) = true ∧ (px.line == pz.line) = true ∧ foldAll [a, b, c] = false ∧ [a, b, c].all (constantsAlone 8) = false ∧ isSt a = false ∧ isSt b = false ∧ isSt c = false then
      (match idx N x, idx N y, idx N z with
      | some i, some j, some k => some (i, j, k)
      | _, _, _ => none) else none
  | _, _ => none
/-- one of the names is a cell -/
def cellIn (sc : Scope) (ts : List Expr) : Bool := ts.any fun t => match t with
  | .Name x _ => decide (sc.names.lookup x = some .cell)
  | _ => true
/-- a tuple of values is stored as it comes -/
def noSwap (t e : Expr) : Bool := match t, e with
  | .Tuple ts _ _, .Tuple vs _ _ => foldAll vs || !(ts.length == 2 || ts.length == 3)
  | .List _ _, .Tuple _ _ _ => false
  | _, _ => true
def setLc (sc : Scope) (t : Expr) (gens : List Comprehension) (scope : Scope) (pos : Pos) : Option Nat := match t with
  | .Name y py => if sc.names.lookup y = some .local ∧ (py.line == pos.line) = true ∧ (scope.names.any fun (n, k) => n == y && (k == .local || k == .cell)) = false then idx N y else none
  | _ => none
def gsQ (sc : Scope) : List Expr → Option (Fgs × List Nat)
  | [] => some (gsNil, [])
  | e :: es => (match (match e with
      | .Tuple es' _ _ => gqOf N sc es'
      | _ => gOf N sc 7 e), gsQ sc es with
    | some (f, sl), some (fs, sl') => if isSt e then none else some (gsCons f fs, sl ++ sl')
    | _, _ => none)
/-- a target whose parts may be targets of lists -/
def gOfQ (sc : Scope) : Expr → Option (Fg × List Nat)
  | .Tuple es _ _ => if es.all (fun e => !isSt e) = true then (gsQ N sc es).map fun p => (gTp es.length p.1, p.2) else none
  | _ => none
def vAssign (sc : Scope) (t e : Expr) : Fs := match t with
  | .Attribute o f _ => sFldF (fun c => tb.na c f) f (r.E sc o) (r.E sc e)
  | .Subscript o i _ => if isSlice i = false then sSubF (r.E sc o) (r.E sc i) (r.E sc e) else sBad
  | .Tuple ts _ _ => (match e with
    | .Tuple vs _ _ => (match par2 N sc ts vs with
      | some (i, j) => sPar2 i j (evAs (r.E sc) vs)
      | none => (match par3 N sc ts vs with
        | some (i, j, k) => sPar3 i j k (evAs (r.E sc) vs)
        | none => if noSwap t e || cellIn sc ts then (match gOfQ N sc t with
          | some (ft, _) => sAsg (r.E sc e) ft
          | none => sBad) else sBad))
    | _ => (match gqOf N sc ts with
      | some (ft, _) => sAsg (r.E sc e) ft
      | none => sBad))
  | .Name _ _ => (match e with
    | .ListComp elt gens scope pos => (match setLc N sc t gens scope pos, cpOf tb N r sc gens scope with
      | some i, some c => sSetE i (relIf (zipG gens) (eLc c.fi c.ft c.fc (r.E scope elt) c.own))
      | some i, none => (match cp2Of tb N r sc gens scope with
        | some c => sSetE i (eLc2 c.fi c.ft c.fc c.fi1 c.ft1 c.fc1 (r.E scope elt) c.own c.sl1)
        | none => sBad)
      | _, _ => sBad)
    | _ => if isComp e = false then (match gOf N sc 8 t with
      | some (ft, _) => sAsg (r.E sc e) ft
      | none => sBad) else sBad)
  | _ => sBad
def raiseF (sc : Scope) (e : Option Expr) (c : Option Expr) : Fs := match e, c with
  | some (.Call (.Name x _) [a] [] _), none => if sc.names.lookup x = some .globalImplicit ∧ (x == ("__debug__" : Str)) = false ∧ isSt a = false then (match tb.xn x with
    | some (c, fld) => sRaise c fld (evAs (r.E sc) [a])
    | none => sBad) else sBad
  | _, _ => sBad
def augF (sc : Scope) (t : Expr) (op : Operator) (e : Expr) : Fs := match t, op with
  | .Name x _, .Add => if sc.names.lookup x = some .local then (match idx N x with
    | some i => sAugI i false (r.E sc e)
    | none => sBad) else sBad
  | .Name x _, .Sub => if sc.names.lookup x = some .local then (match idx N x with
    | some i => sAugI i true (r.E sc e)
    | none => sBad) else sBad
  | _, _ => sBad
def stepS (sc : Scope) (s : Stmt) : Fs := match s with
  | .AugAssign t op e _ => augF N r sc t op e
  | .Raise e c _ => raiseF tb r sc e c
  | .Pass _ => sNx
  | .Break _ => sBk
  | .Continue _ => sCt
  | .Expr e _ => if isComp e = false then sExpr (r.E sc e) else sBad
  | .Return e _ => (match e with
    | some e => sRet (r.E sc e)
    | none => sRetN)
  | .If c a b _ => sIf (r.T sc c) (r.Ss sc a) (r.Ss sc b)
  | .Assign ts e _ => (match ts with
    | [t] => vAssign tb N r sc t e
    | _ => sBad)
  | .For tg it body orelse _ => (match orelse with
    | [] => if isSet it = false then (match gOf N sc 8 tg with
      | some (ft, _) => sFor (iOf tb r sc tg it) ft (r.Ss sc body)
      | none => sBad) else sBad
    | _ => sBad)
  | .While c body orelse _ => (match orelse with
    | [] => whileGo (r.T sc c) (r.Ss sc body) wf
    | _ => sBad)
  | _ => sBad
def stepSs (sc : Scope) : List Stmt → Fs
  | [] => sNx
  | s :: ss => sSeq (stepS tb N wf r sc s) (stepSs sc ss)
def hAtom (n : Str) : Expr → Option (List (Str × Val) → Env → Option Val)
  | .Constant (.int i) _ _ => some fun _ _ => some (.int i)
  | .Constant (.str x) _ _ => if x.length ≤ lim then some fun _ _ => some (.str x) else none
  | .Constant .none _ _ => some fun _ _ => some .non
  | .Constant (.bool b) _ _ => some fun _ _ => some (.bl b)
  | .Attribute (.Name x _) f _ => if x = n then some fun fs _ => fs.lookup f else none
  | _ => none
def hAtoms (n : Str) : List Expr → Option (List (List (Str × Val) → Env → Option Val))
  | [] => some []
  | e :: es => if isSt e then none else (match hAtom n e, hAtoms n es with
    | some f, some l => some (f :: l)
    | _, _ => none)
def hExpr (n : Str) : Expr → Option (List (Str × Val) → Env → Heap → Rs Val)
  | .Tuple es _ _ => (hAtoms n es).map hTup
  | e => (hAtom n e).map fun f => fun fs env h => opt (f fs env) h
def hSuite (sc : Scope) (n : Str) : List Stmt → Option Fh
  | [.Assign [.Name x _] e _] => if sc.names.lookup x = some .local ∧ isComp e = false then (match idx N x, hExpr n e with
    | some j, some f => some (hSet j f)
    | _, _ => none) else none
  | [.Return (some e) _] => (hExpr n e).map hRet
  | _ => none
/-- the fields that a suite reads -/
def aFlds (n : Str) : Expr → List Str
  | .Attribute (.Name x _) f _ => if x = n then [f] else []
  | _ => []
def eFlds (n : Str) : Expr → List Str
  | .Tuple es _ _ => es.flatMap (aFlds n)
  | e => aFlds n e
def sFlds (n : Str) : List Stmt → List Str
  | [.Assign [.Name _ _] e _] => eFlds n e
  | [.Return (some e) _] => eFlds n e
  | _ => []
/-- one of several clauses -/
def hdOf (sc : Scope) : ExceptHandler → Option (Nat × Nat × Fh)
  | .ExceptHandler (some (.Name x _)) (some n) suite _ => if sc.names.lookup x = some .globalImplicit ∧ (x == ("__debug__" : Str)) = false ∧ sc.names.lookup n = some .local ∧ (n == ("__debug__" : Str)) = false ∧ (n == ("__classdict__" : Str)) = false ∧ suite ≠ [] then (match tb.xn x, idx N n, hSuite N sc n suite with
    | some (c, fld), some i, some su => if (sFlds n suite).all (fun f => decide (f = fld)) = true then some (c, i, su) else none
    | _, _, _ => none) else none
  | _ => none
def hdsOf (sc : Scope) : List ExceptHandler → Option (List (Nat × Nat × Fh))
  | [] => some []
  | h :: hs => (match hdOf tb N sc h, hdsOf sc hs with
    | some a, some l => some (a :: l)
    | _, _ => none)
def tryF (sc : Scope) (body : List Stmt) (hds : List ExceptHandler) : Fs := match hds with
  | [.ExceptHandler (some (.Name x _)) (some n) suite _] => if sc.names.lookup x = some .globalImplicit ∧ (x == ("__debug__" : Str)) = false ∧ sc.names.lookup n = some .local ∧ (n == ("__debug__" : Str)) = false ∧ (n == ("__classdict__" : Str)) = false ∧ suite ≠ [] then (match tb.xn x, idx N n, hSuite N sc n suite with
    | some (c, fld), some i, some su => if (sFlds n suite).all (fun f => decide (f = fld)) = true then sTry (r.Ss sc body) tb.xm c i su else sBad
    | _, _, _ => sBad) else sBad
  | h :: k :: hs => (match hdsOf tb N sc (h :: k :: hs) with
    | some l => sTryM (r.Ss sc body) tb.xm l
    | none => sBad)
  | _ => sBad
def topS (sc : Scope) (s : Stmt) : Fs := match s with
  | .Try body hds [] [] _ => tryF tb N r sc body hds
  | s => stepS tb N wf r sc s
def topSs (sc : Scope) : List Stmt → Fs
  | [] => sNx
  | s :: ss => sSeq (topS tb N wf r sc s) (topSs sc ss)
def step : Ev := ⟨stepE tb cf N r, stepT tb cf r, stepSs tb N wf r⟩
end
def evBad : Ev := ⟨fun _ _ => xBad, fun _ _ => tBad, fun _ _ => sBad⟩
def ev (tb : Tb) (cf : Cf) (N : List Str) (wf : Nat) : Nat → Ev
  | 0 => evBad
  | n + 1 => step tb cf N wf (ev tb cf N wf n)
/-- a def: its parameters, its slots, its scope, its body -/
structure Fn where
  ps : List Str
  N : List Str
  sc : Scope
  body : List Stmt
def runBody (tb : Tb) (cf : Cf) (wf fuel : Nat) (f : Fn) (args : List Val) (h : Heap) : Rs Val :=
  if args.length = f.ps.length then match topSs tb f.N wf (ev tb cf f.N wf fuel) f.sc f.body (args.map some ++ List.replicate (f.N.length - args.length) none) h with
    | .nx _ h' => .ok .non h'
    | .rt v h' => .ok v h'
    | .ex _ c fs h' => .ex c fs h'
    | _ => .bad else .bad
def callF (tb : Tb) (fns : Nat → Option Fn) (wf fuel : Nat) : Nat → Cf
  | 0 => fun _ _ _ => .bad
  | d + 1 => fun i args h => match fns i with
    | some f => runBody tb (callF tb fns wf fuel d) wf fuel f args h
    | none => .bad
end MP
end
section
set_option autoImplicit false
set_option linter.all false
namespace MP
open PySem L2
structure FOk (g : G) (lv : Nat) (f : FI) (c : List Val → Heap → Rs Val) (a : Addr) : Prop where
  ex : ∃ (k : Nat) (fd : FuncData) (ps : List Str), k + 1 ≤ lv ∧ DOk g k f.np c a fd ps ∧ ∀ m, DV g fd ps (f.dv.drop m)
/-- exceptions as values -/
structure XxOk (g : G) (tb : Tb) : Prop where
  tx : TxOk g tb.tx
  xf : XfOk g tb.xf
  xk : ∀ x c fld kn, tb.xk x = some (c, fld, kn) → g.mg x = some (.ref (g.C c)) ∧ XOkK g c fld kn
  x0 : ∀ x c, tb.x0 x = some c → g.mg x = some (.ref (g.C c)) ∧ XOk0 g c
  xt : ∀ x c, tb.xt x = some c → g.mg x = some (.ref (g.C c)) ∧ XOkT g c
structure TbOk (g : G) (lv : Nat) (tb : Tb) (cf : Cf) : Prop where
  fn : ∀ x i f, tb.gn x = some (.fn i) → tb.fi i = some f → ∃ a, g.mg x = some (.ref a) ∧ PySem.W.keepIn g.K (.ref a) = true ∧ FOk g lv f (cf i) a
  mke : ∀ c i f, tb.ini c = some i → tb.fi i = some f → ∃ a, Mk g.K (g.C c) a ∧ FOk g lv f (cf i) a
  cls : ∀ x c, tb.gn x = some (.cls c) → g.mg x = some (.ref (g.C c))
  con : ∀ x v, tb.gn x = some (.con v) → GCon g x v
  blt : ∀ x, tb.gn x = some .blt → g.mg x = none
  mth : ∀ c m i f, tb.cm c m = some i → tb.fi i = some f → ∃ a, L2.Cls g.K (g.C c) ∧ Meth g.K (g.C c) m a ∧ FOk g lv f (cf i) a
  oe : ∀ c i f, tb.oe c = some i → tb.fi i = some f → ∃ a, PySem.W.findIn g.K (.ref (g.C c)) "__eq__" = some (some (.ref a)) ∧ PySem.W.isFn g.K (.ref a) = true ∧ PySem.W.findIn g.K (.ref (g.C c)) "__ne__" = some (some (.builtin "object.__ne__")) ∧
    PySem.W.mroIn g.K (g.C c) (.type "object") = some true ∧ FOk g lv f (cf i) a
  oen : ∀ c i, tb.oe c = some i → PySem.W.mroIn g.K (g.C c) (.type "str") = some false ∧ PySem.W.mroIn g.K (g.C c) (.type "tuple") = some false
  ob : ∀ op c i f, tb.ob op c = some i → tb.fi i = some f → ∃ a, PySem.W.findIn g.K (.ref (g.C c)) (PySem.dunder op.info.2) = some (some (.ref a)) ∧ PySem.W.isFn g.K (.ref a) = true ∧ PySem.W.selfFirst g.K (g.C c) = true ∧ InsTy g c ∧ FOk g lv f (cf i) a
  na : ∀ c f, tb.na c f = true → L2.Cls g.K (g.C c) ∧ NoAttr g.K (g.C c) f
  tt : TtOk g tb.tt
  nf : NfOk g tb.nf
  pr : ∀ c m i f, tb.pr c m = some i → tb.fi i = some f → ∃ a p, L2.Cls g.K (g.C c) ∧ PropOf g.K (g.C c) m p a ∧ FOk g lv f (cf i) a
  obt : ∀ op c, tb.obt op c = true → OBT g op c
  xn : ∀ x c fld, tb.xn x = some (c, fld) → g.mg x = some (.ref (g.C c)) ∧ XOk g c fld ∧ XR g c fld
  xm : XmOk g tb.xm
  lv2 : 2 ≤ lv
  xx : tb.hasX = true → XxOk g tb
  ct : ∀ c m i f, tb.ct c m = some i → tb.fi i = some f → ∃ mc p a, ClX.CRead g.K (g.C c) mc ∧ ClX.CMet g.K (g.C c) mc m p a ∧ FOk g lv f (cf i) a
theorem idx_get : ∀ {N : List Str} {x : Str} {i : Nat}, idx N x = some i → N[i]? = some x
  | [], x, i, e => by cases e
  | y :: r, x, i, e => by
    unfold idx at e
    split at e
    · rename_i h
      cases e
      rw [h]; rfl
    · obtain ⟨j, e1, rfl⟩ := Option.map_eq_some_iff.mp e
      simpa using idx_get e1
section
variable {g : G} {lv : Nat} {N : List Str} {tb : Tb} {cf : Cf} {wf : Nat} {r : Ev}
theorem so_bad' {sc : Scope} {e : Expr} : SoE g lv N sc xBad e := so_bad
theorem st_bad {sc : Scope} {e : Expr} : SoT g lv N sc tBad e := fun X W G ρ h H env σ Q r er q => q.elim
theorem sa_bad {sc : Scope} {e : List Expr} : SoA g lv N sc aBad e := fun X W G ρ h H env σ Q r er q => q.elim
theorem s_bad' {sc : Scope} {s : Stmt} : SoS g lv N sc sBad s := s_bad
theorem sw_bad {sc : Scope} {e : Expr} : SoW g lv N sc tBad e := fun X W G ρ h H env σ Q r er q => q.elim
structure EvOk (g : G) (lv : Nat) (N : List Str) (r : Ev) : Prop where
  E : ∀ sc e, SoE g lv N sc (r.E sc e) e
  T : ∀ sc e, SoT g lv N sc (r.T sc e) e
  Ss : ∀ sc ss, SoSs g lv N sc (r.Ss sc ss) ss
theorem tyName_ok {x : Str} {t : String} (e : tyName x = some t) : bootBuiltins x = some (.type t) ∧ x ≠ "__name__" := by
  unfold tyName at e
  split at e
  · rename_i h; subst h; cases e; exact ⟨rfl, by decide⟩
  split at e
  · rename_i h; subst h; cases e; exact ⟨rfl, by decide⟩
  split at e
  · rename_i h; subst h; cases e; exact ⟨rfl, by decide⟩
  split at e
  · rename_i h; subst h; cases e; exact ⟨rfl, by decide⟩
  split at e
  · rename_i h; subst h; cases e; exact ⟨rfl, by decide⟩
  split at e
  · rename_i h; subst h; cases e; exact ⟨rfl, by decide⟩
  split at e
  · rename_i h; subst h; cases e; exact ⟨rfl, by decide⟩
  · cases e
theorem ok_slot {sc : Scope} {x : Str} {p : Pos} (hv : Vis sc x) (hd : (x == ("__debug__" : Str)) = false) (hc : (x == ("__classdict__" : Str)) = false) : SoE g lv N sc (vSlot N x) (.Name x p) := by
  unfold vSlot
  split
  · rename_i i hi
    exact so_var (idx_get hi) hv hd hc
  · exact so_bad'
theorem ok_name (T : TbOk g lv tb cf) (sc : Scope) (x : Str) (p : Pos) : SoE g lv N sc (vName tb N sc x) (.Name x p) := by
  unfold vName
  split
  · exact so_bad'
  · rename_i hb
    rw [not_or] at hb
    have hd : (x == ("__debug__" : Str)) = false := by simpa using hb.1
    have hc : (x == ("__classdict__" : Str)) = false := by simpa using hb.2
    split
    · rename_i hx
      split
      · rename_i c hg
        exact so_cls hx (T.cls x c hg) hd
      · rename_i v hg
        exact so_gcon hx (T.con x v hg) hd
      · rename_i hg
        split
        · rename_i t ht
          obtain ⟨h1, h2⟩ := tyName_ok ht
          exact so_ty hx (T.blt x hg) h1 h2 hd
        · exact so_bad'
      · exact so_bad'
    · rename_i hk
      exact ok_slot (.inl hk) hd hc
    · rename_i hk
      exact ok_slot (.inr (.inl hk)) hd hc
    · rename_i hk
      exact ok_slot (.inr (.inr hk)) hd hc
    · exact so_bad'
theorem ok_const (sc : Scope) (c : Const) (k : Nat) (p : Pos) : SoE g lv N sc (vConst c) (.Constant c k p) := by
  cases c with
  | int i => exact so_int
  | bool b => exact so_bl
  | none => exact so_non
  | str x =>
    show SoE g lv N sc (if x.length ≤ lim then xLit (.str x) else xBad) _
    split
    · rename_i h; exact so_str (lim_le h)
    · exact so_bad'
  | _ => exact so_bad'
theorem ok_as {sc : Scope} {f : Expr → Fe} (F : ∀ e, SoE g lv N sc (f e) e) : ∀ es, SoA g lv N sc (evAs f es) es
  | [] => sa_nil
  | e :: es => by
    unfold evAs
    split
    · exact absurd ‹_› (List.cons_ne_nil _ _)
    · rename_i e' p' es' h1
      cases h1
      exact sa_star (fun env => rfl) (F e') (ok_as F es)
    · rename_i e' es' hn h1
      cases h1
      cases z : isSt e with
      | true => exact sa_bad
      | false => exact sa_cons z (F e) (ok_as F es)
theorem FOk.fill {f : FI} {c : List Val → Heap → Rs Val} {a : Addr} (h : FOk g lv f c a) (m : Nat) : ∃ (k : Nat) (fd : FuncData) (ps : List Str), k + 1 ≤ lv ∧ DOk g k f.np c a fd ps ∧ DV g fd ps (f.fill m) := by
  obtain ⟨k, fd, ps, h1, h2, h3⟩ := h.ex
  exact ⟨k, fd, ps, h1, h2, h3 _⟩
theorem obF_ok (T : TbOk g lv tb cf) (op : Operator) : ∀ c i, obF tb cf op c = some i → OBin g lv op c i := fun c i e => by
  obtain ⟨j, e1, e2⟩ := Option.bind_eq_some_iff.mp e
  obtain ⟨f, e3, rfl⟩ := Option.map_eq_some_iff.mp e2
  obtain ⟨a, h1, h2, h3, h4, h5⟩ := T.ob op c j f e1 e3
  obtain ⟨k, fd, ps, hk, D, V⟩ := h5.fill 2
  exact ⟨k, a, fd, ps, by omega, h1, h2, h3, h4, D, V⟩
theorem oeF_ok (T : TbOk g lv tb cf) : ∀ c i, oeF tb cf c = some i → OEq g lv c i := fun c i e => by
  obtain ⟨j, e1, e2⟩ := Option.bind_eq_some_iff.mp e
  obtain ⟨f, e3, rfl⟩ := Option.map_eq_some_iff.mp e2
  obtain ⟨a, h1, h2, h3, h4, h5⟩ := T.oe c j f e1 e3
  obtain ⟨k, fd, ps, hk, D, V⟩ := h5.fill 2
  exact ⟨T.oen c j e1, k, a, fd, ps, hk, h1, h2, h3, h4, D, V⟩
theorem cmF_ok (T : TbOk g lv tb cf) (m : Str) (n : Nat) : ∀ c i, cmF tb cf m n c = some i → MOk g lv c m i := fun c i e => by
  obtain ⟨j, e1, e2⟩ := Option.bind_eq_some_iff.mp e
  obtain ⟨f, e3, rfl⟩ := Option.map_eq_some_iff.mp e2
  obtain ⟨a, h1, h2, h3⟩ := T.mth c m j f e1 e3
  obtain ⟨k, fd, ps, hk, D, V⟩ := h3.fill (n + 1)
  exact ⟨k, a, fd, ps, by omega, h1, h2, D, V⟩
theorem prF_ok (T : TbOk g lv tb cf) (m : Str) : ∀ c i, prF tb cf m c = some i → POk g lv c m i := fun c i e => by
  obtain ⟨j, e1, e2⟩ := Option.bind_eq_some_iff.mp e
  obtain ⟨f, e3, rfl⟩ := Option.map_eq_some_iff.mp e2
  obtain ⟨a, p, h1, h2, h3⟩ := T.pr c m j f e1 e3
  obtain ⟨k, fd, ps, hk, D, V⟩ := h3.fill 1
  exact ⟨k, a, p, fd, ps, hk, h1, h2, D, V⟩
theorem bo_no {op : Operator} : SoOS g lv (binaryOp op) noBin := fun X W N sc G ρ h H σ x y vx vy Q r tx ty q => q.elim
theorem binF_ok (T : TbOk g lv tb cf) {op : Operator} {fo : Val → Val → Heap → Rs Val} (e : binF tb cf op = some fo) : SoOS g lv (binaryOp op) fo := by
  cases op <;> first
    | (cases e; exact bo_ownT (obF_ok T _) (T.obt _) bo_add.p)
    | (cases e; exact bo_ownT (obF_ok T _) (T.obt _) bo_sub.p)
    | (cases e; exact bo_ownT (obF_ok T _) (T.obt _) bo_mulW.p)
    | (cases e; exact bo_ownT (obF_ok T _) (T.obt _) bo_no)
    | (cases e; exact bo_fdiv.p)
    | (cases e; exact bo_mod.p)
    | (cases e; exact bo_pow.p)
    | cases e
theorem cmp0_ok {op : CmpOp} {fo : Val → Val → Heap → Rs Val} (e : cmp0 op = some fo) : SoO g lv (compareOp op) fo := by
  cases op <;> first
    | (cases e; exact co_eqI)
    | (cases e; exact co_lt)
    | (cases e; exact co_le)
    | (cases e; exact co_gt)
    | (cases e; exact co_ge)
    | (cases e; exact co_is)
    | (cases e; exact co_isn)
    | (cases e; exact co_in)
    | (cases e; exact co_nin)
    | cases e
theorem cmpF_ok (T : TbOk g lv tb cf) (op : CmpOp) : SoOS g lv (compareOp op) (cmpF tb cf op) := by
  cases op
  · exact co_eqD (oeF_ok T) T.nf
  · exact co_neD (oeF_ok T) T.nf
  · exact co_lt.p
  · exact co_le.p
  · exact co_gt.p
  · exact co_ge.p
  · exact co_is.p
  · exact co_isn.p
  · exact co_in.p
  · exact co_nin.p
theorem cmpX_ok (T : TbOk g lv tb cf) (op : CmpOp) (b : Expr) : SoOS g lv (compareOp op) (cmpX tb cf op b) := by
  cases op with
  | In =>
    show SoOS g lv _ (if tupD b then inOpD false else cmpF tb cf .In)
    by_cases z : tupD b = true <;> simp only [z, if_true, if_false, Bool.false_eq_true]
    · exact co_inD.p
    · exact cmpF_ok T .In
  | NotIn =>
    show SoOS g lv _ (if tupD b then inOpD true else cmpF tb cf .NotIn)
    by_cases z : tupD b = true <;> simp only [z, if_true, if_false, Bool.false_eq_true]
    · exact co_ninD.p
    · exact cmpF_ok T .NotIn
  | _ => exact cmpF_ok T _
theorem ok_andE {sc : Scope} {f : Expr → Fe} (F : ∀ e, SoE g lv N sc (f e) e) {p : Pos} : ∀ es, SoE g lv N sc (andE f es) (.BoolOp .And es p)
  | [] => so_bad'
  | [e] => so_one (F e)
  | e :: e' :: es => so_and (F e) (ok_andE F (e' :: es))
theorem ok_orE {sc : Scope} {f : Expr → Fe} (F : ∀ e, SoE g lv N sc (f e) e) {p : Pos} : ∀ es, SoE g lv N sc (orE f es) (.BoolOp .Or es p)
  | [] => so_bad'
  | [e] => so_one (F e)
  | e :: e' :: es => so_or (F e) (ok_orE F (e' :: es))
theorem ok_andT {sc : Scope} {f : Expr → Ft} (F : ∀ e, SoT g lv N sc (f e) e) {p : Pos} : ∀ es, SoW g lv N sc (andT f es) (.BoolOp .And es p)
  | [] => sw_bad
  | [e] => sw_and1 (F e)
  | e :: e' :: es => sw_and (F e) (ok_andT F (e' :: es))
theorem ok_orT {sc : Scope} {f : Expr → Ft} (F : ∀ e, SoT g lv N sc (f e) e) {p : Pos} : ∀ es, SoW g lv N sc (orT f es) (.BoolOp .Or es p)
  | [] => sw_bad
  | [e] => sw_or1 (F e)
  | e :: e' :: es => sw_or (F e) (ok_orT F (e' :: es))
/-- a built-in function -/
def BfOk (g : G) (lv : Nat) (x : Str) (f : List Val → Heap → Rs Val) : Prop := (x == ("__debug__" : Str)) = false ∧ x ≠ "__name__" ∧ ((∃ id, bootBuiltins x = some (.builtin id) ∧ SoF g lv (.builtin id) f) ∨ ∃ t, bootBuiltins x = some (.type t) ∧ SoF g lv (.type t) f)
theorem bfOf2_ok (T : TbOk g lv tb cf) {x : Str} {f : List Val → Heap → Rs Val} (e : bfOf2 tb x = some f) : BfOk g lv x f := by
  unfold bfOf2 at e
  split at e
  · rename_i h; subst h; cases e
    refine ⟨by decide, by decide, .inl ⟨_, rfl, ?_⟩⟩
    split
    · rename_i hx; exact bf_isX T.tt (T.xx hx).tx
    · exact bf_isiW T.tt
  split at e
  · rename_i h; subst h; cases e; exact ⟨by decide, by decide, .inr ⟨_, rfl, bf_str.f⟩⟩
  split at e
  · rename_i h; subst h; cases e; exact ⟨by decide, by decide, .inl ⟨_, rfl, bf_min.f⟩⟩
  split at e
  · rename_i h; subst h; cases e; exact ⟨by decide, by decide, .inl ⟨_, rfl, bf_max.f⟩⟩
  · cases e
theorem bfOf_ok (T : TbOk g lv tb cf) {x : Str} {f : List Val → Heap → Rs Val} (e : bfOf tb x = some f) : BfOk g lv x f := by
  unfold bfOf at e
  split at e
  · rename_i h; subst h; cases e; exact ⟨by decide, by decide, .inl ⟨_, rfl, bf_len.f⟩⟩
  split at e
  · rename_i h; subst h; cases e; exact ⟨by decide, by decide, .inr ⟨_, rfl, bf_int.f⟩⟩
  split at e
  · rename_i h; subst h; cases e; exact ⟨by decide, by decide, .inr ⟨_, rfl, bf_list.f⟩⟩
  split at e
  · rename_i h; subst h; cases e; exact ⟨by decide, by decide, .inr ⟨_, rfl, bf_tuple.f⟩⟩
  split at e
  · rename_i h; subst h; cases e; exact ⟨by decide, by decide, .inr ⟨_, rfl, bf_dict.f⟩⟩
  split at e
  · rename_i h; subst h; cases e; exact ⟨by decide, by decide, .inl ⟨_, rfl, bf_sorted.f⟩⟩
  split at e
  · rename_i h; subst h; cases e; exact ⟨by decide, by decide, .inl ⟨_, rfl, bf_sum.f⟩⟩
  split at e
  · rename_i h; subst h; cases e; exact ⟨by decide, by decide, .inl ⟨_, rfl, bf_all.f⟩⟩
  split at e
  · rename_i h; subst h; cases e; exact ⟨by decide, by decide, .inl ⟨_, rfl, bf_any.f⟩⟩
  · exact bfOf2_ok T e
theorem bmOf_ok {m : Str} {tab : BK → Option Fm} (e : bmOf m = some tab) : ∀ k f, tab k = some f → BmOk g lv m k f := by
  unfold bmOf at e
  split at e
  · rename_i h; subst h; cases e; intro k f z; cases k <;> cases z; exact bm_append
  split at e
  · rename_i h; subst h; cases e; intro k f z; cases k <;> cases z <;> first | exact bm_clearL | exact bm_clearD
  split at e
  · rename_i h; subst h; cases e; intro k f z; cases k <;> cases z; exact bm_extend
  split at e
  · rename_i h; subst h; cases e; intro k f z; cases k <;> cases z; exact bm_pop
  split at e
  · rename_i h; subst h; cases e; intro k f z; cases k <;> cases z; exact bm_get
  split at e
  · rename_i h; subst h; cases e; intro k f z; cases k <;> cases z; exact bm_join
  split at e
  · rename_i h; subst h; cases e; intro k f z; cases k <;> cases z; exact bm_split
  split at e
  · rename_i h; subst h; cases e; intro k f z; cases k <;> cases z; exact bm_partition
  · cases e
theorem listArg_vals {sc : Scope} {rb : Bool} {args : List Expr} {e : Expr} {b : Bool} (h : listArg sc rb args = (.vals, e, b)) : ∃ apos cpos, args = [.Call (.Attribute e "values" apos) [] [] cpos] ∧ b = (noSuper e && (apos.endLine == cpos.line)) := by
  unfold listArg at h
  split at h
  · split at h
    · rename_i hm; cases h; subst hm; exact ⟨_, _, rfl, rfl⟩
    · split at h <;> cases h
  · split at h <;> cases h
  · cases h
theorem listArg_itms {sc : Scope} {rb : Bool} {args : List Expr} {e : Expr} {b : Bool} (h : listArg sc rb args = (.itms, e, b)) : ∃ apos cpos, args = [.Call (.Attribute e "items" apos) [] [] cpos] ∧ b = (noSuper e && (apos.endLine == cpos.line)) := by
  unfold listArg at h
  split at h
  · split at h
    · cases h
    · split at h
      · rename_i hm; cases h; subst hm; exact ⟨_, _, rfl, rfl⟩
      · cases h
  · split at h <;> cases h
  · cases h
theorem listArg_rng {sc : Scope} {rb : Bool} {args : List Expr} {e : Expr} {b : Bool} (h : listArg sc rb args = (.rng, e, b)) : ∃ p pos, args = [.Call (.Name "range" p) [e] [] pos] ∧ b = (rb && (decide (sc.names.lookup ("range" : Str) = some .globalImplicit) && !isSt e)) := by
  unfold listArg at h
  split at h
  · split at h
    · cases h
    · split at h <;> cases h
  · split at h
    · rename_i hm; cases h; subst hm; exact ⟨_, _, rfl, rfl⟩
    · cases h
  · cases h
theorem isBlt_okW {o : Option GN} (h : isBlt o = true) : o = some .blt := by
  unfold isBlt at h
  split at h
  · rfl
  · cases h
theorem setArg_ok {sc : Scope} {rb : Bool} {args : List Expr} {e : Expr} {b : Bool} (h : setArg sc rb args = some (e, b)) : ∃ p pos, args = [.Call (.Name "set" p) [e] [] pos] ∧ b = (rb && (decide (sc.names.lookup ("set" : Str) = some .globalImplicit) && !isSt e)) := by
  unfold setArg at h
  split at h
  · split at h
    · rename_i hm; cases h; subst hm; exact ⟨_, _, rfl, rfl⟩
    · cases h
  · cases h
theorem ctF_ok (T : TbOk g lv tb cf) {m : Str} {n c : Nat} {i : MI} (e : ctF tb cf m n c = some i) : CMOk g lv c m i := by
  obtain ⟨j, e1, e2⟩ := Option.bind_eq_some_iff.mp e
  obtain ⟨f, e3, rfl⟩ := Option.map_eq_some_iff.mp e2
  obtain ⟨mc, p, a, h1, h2, h3⟩ := T.ct c m j f e1 e3
  obtain ⟨k, fd, ps, hk, D, V⟩ := h3.fill (n + 1)
  exact ⟨k, mc, p, a, fd, ps, by omega, h1, h2, D, V⟩
theorem inF_ok (T : TbOk g lv tb cf) {n : Nat} : ∀ c i, inF tb cf n c = some i → MKI g lv c i := fun c i e => by
  obtain ⟨j, e1, e2⟩ := Option.bind_eq_some_iff.mp e
  obtain ⟨f, e3, rfl⟩ := Option.map_eq_some_iff.mp e2
  obtain ⟨a, h1, h3⟩ := T.mke c j f e1 e3
  obtain ⟨k, fd, ps, hk, D, V⟩ := h3.fill (n + 1)
  exact ⟨k, a, fd, ps, hk, h1, D, V⟩
theorem ok_call (T : TbOk g lv tb cf) (R : EvOk g lv N r) (sc : Scope) (x : Str) (args : List Expr) (p pos : Pos) : SoE g lv N sc (vCall tb cf N r sc x args) (.Call (.Name x p) args [] pos) := by
  unfold vCall
  split
  · rename_i hc
    obtain ⟨hx, hd, hs⟩ := hc
    have hA := ok_as (R.E sc) args
    split
    · rename_i i hg
      split
      · rename_i f hf
        obtain ⟨a, h1, h2, h3⟩ := T.fn x i f hg hf
        obtain ⟨k, fd, ps, hk, D, V⟩ := h3.fill args.length
        cases args with
        | nil => exact so_call0 D (by omega) V hx h1 h2 hd
        | cons e es => exact so_call D (by omega) V hx h1 h2 hd hs hA
      · exact so_bad'
    · rename_i c hg
      split
      · rename_i e es i hi
        split
        · rename_i f hf
          obtain ⟨a, h1, h3⟩ := T.mke c i f hi hf
          obtain ⟨k, fd, ps, hk, D, V⟩ := h3.fill ((e :: es).length + 1)
          exact so_make h1 D hk V hx (T.cls x c hg) hd hs hA
        · exact so_bad'
      · exact so_bad'
    · rename_i hg
      split
      · exact so_bad'
      · rename_i e es
        have go : ∀ f, BfOk g lv x f → SoE g lv N sc (xBf (evAs (r.E sc) (e :: es)) f) (.Call (.Name x p) (e :: es) [] pos) := fun f ⟨h1, h2, h3⟩ => by
          rcases h3 with ⟨id, hb, hf⟩ | ⟨t, hb, hf⟩
          · exact so_bf hf hx (T.blt x hg) hb h2 h1 hs hA
          · exact so_bt hf hx (T.blt x hg) hb h2 h1 hs hA
        split
        · rename_i hl
          subst hl
          split
          · exact go _ ⟨by decide, by decide, .inr ⟨_, rfl, bf_list.f⟩⟩
          · rename_i e' hv
            obtain ⟨apos, cpos, ha, hb⟩ := listArg_vals hv
            rw [ha]
            have hb' := Bool.and_eq_true_iff.mp hb.symm
            exact so_listVals hx (T.blt _ hg) hb'.1 hb'.2 (R.E sc e')
          · rename_i e' hv
            obtain ⟨apos, cpos, ha, hb⟩ := listArg_itms hv
            rw [ha]
            have hb' := Bool.and_eq_true_iff.mp hb.symm
            exact so_listItms hx (T.blt _ hg) hb'.1 hb'.2 (R.E sc e')
          · rename_i e' hv
            obtain ⟨apos, cpos, ha, hb⟩ := listArg_rng hv
            rw [ha]
            have hb' := Bool.and_eq_true_iff.mp hb.symm
            have hb2 := Bool.and_eq_true_iff.mp hb'.2
            exact so_listRng hx (T.blt _ hg) (of_decide_eq_true hb2.1) (T.blt _ (isBlt_okW hb'.1)) (by simpa using hb2.2) (R.E sc e')
          · exact so_bad'
        · split
          · rename_i hl
            subst hl
            split
            · exact go _ ⟨by decide, by decide, .inl ⟨_, rfl, bf_len.f⟩⟩
            · rename_i e' hv
              obtain ⟨p', pos', ha, hb⟩ := setArg_ok hv
              rw [ha]
              have hb' := Bool.and_eq_true_iff.mp hb.symm
              have hb2 := Bool.and_eq_true_iff.mp hb'.2
              exact so_lenSet hx (T.blt _ hg) (of_decide_eq_true hb2.1) (T.blt _ (isBlt_okW hb'.1)) (by simpa using hb2.2) (R.E sc e')
            · exact so_bad'
          · split
            · rename_i hl
              subst hl
              split
              · exact go _ ⟨by decide, by decide, .inl ⟨_, rfl, bf_sorted.f⟩⟩
              · rename_i e' hv
                obtain ⟨p', pos', ha, hb⟩ := setArg_ok hv
                rw [ha]
                have hb' := Bool.and_eq_true_iff.mp hb.symm
                have hb2 := Bool.and_eq_true_iff.mp hb'.2
                exact so_sortSet hx (T.blt _ hg) (of_decide_eq_true hb2.1) (T.blt _ (isBlt_okW hb'.1)) (by simpa using hb2.2) (R.E sc e')
              · exact so_bad'
            · split
              · rename_i f hf
                exact go f (bfOf_ok T hf)
              · exact so_bad'
    · exact so_bad'
  · split
    · rename_i hc
      obtain ⟨hx, hd, hcd, hs⟩ := hc
      split
      · rename_i j hj _
        exact so_makeL (inF_ok T) (idx_get hj) (.inl hx) hd hcd hs (ok_as (R.E sc) _)
      · exact so_bad'
    · exact so_bad'
theorem vNew_ok (T : TbOk g lv tb cf) (R : EvOk g lv N r) {sc : Scope} {x : Str} {args : List Expr} {fe : Fe} {p pos : Pos} (e : vNew tb r sc x args = some fe) : SoE g lv N sc fe (.Call (.Name x p) args [] pos) := by
  unfold vNew at e
  split at e
  · rename_i hc
    obtain ⟨hX, hx, hd⟩ := hc
    split at e
    · obtain ⟨c, e1, rfl⟩ := Option.map_eq_some_iff.mp e
      obtain ⟨m, K⟩ := (T.xx hX).x0 x c e1
      exact so_newX0 K T.lv2 hx m hd
    · rename_i a
      split at e
      · rename_i hs
        split at e
        · rename_i c fld hn
          cases e
          obtain ⟨m, K, _⟩ := T.xn x c fld hn
          exact so_newX K T.lv2 hx m hd hs (ok_as (R.E sc) [a])
        · obtain ⟨c, e1, rfl⟩ := Option.map_eq_some_iff.mp e
          obtain ⟨m, K⟩ := (T.xx hX).xt x c e1
          exact so_newXT K hx m hd hs (R.E sc a)
      · cases e
    · cases e
  · cases e
theorem vNewK_ok (T : TbOk g lv tb cf) (R : EvOk g lv N r) {sc : Scope} {x : Str} {args : List Expr} {kws : List Keyword} {p pos : Pos} : SoE g lv N sc (vNewK tb r sc x args kws) (.Call (.Name x p) args kws pos) := by
  unfold vNewK
  split
  · split
    · rename_i hc
      obtain ⟨hX, hx, hd⟩ := hc
      split
      · rename_i c fld kn' hk
        split
        · rename_i h
          subst h
          obtain ⟨m, K⟩ := (T.xx hX).xk x c fld _ hk
          exact so_newXK K T.lv2 hx m hd (R.E sc _)
        · exact so_bad'
      · exact so_bad'
    · exact so_bad'
  · exact so_bad'
theorem clsN_ok (T : TbOk g lv tb cf) {sc : Scope} {o : Expr} {c : Nat} (h : clsN tb sc o = some c) : ∃ x p, o = .Name x p ∧ sc.names.lookup x = some .globalImplicit ∧ g.mg x = some (.ref (g.C c)) ∧ (x == ("__debug__" : Str)) = false := by
  unfold clsN at h
  split at h
  · rename_i x p
    split at h
    · rename_i hc
      split at h
      · rename_i c' hg
        cases h
        exact ⟨x, p, rfl, hc.1, T.cls x c hg, hc.2⟩
      · cases h
    · cases h
  · cases h
theorem ok_meth (T : TbOk g lv tb cf) (R : EvOk g lv N r) (sc : Scope) (o : Expr) (m : Str) (apos : Pos) (args : List Expr) (pos : Pos) : SoE g lv N sc (vMeth tb cf r sc o m apos args pos) (.Call (.Attribute o m apos) args [] pos) := by
  unfold vMeth
  split
  · rename_i hc
    obtain ⟨h1, h2, h3, h4⟩ := hc
    have hA := ok_as (R.E sc) args
    split
    · rename_i c hcl
      obtain ⟨x, p, rfl, hx, hm, hdb⟩ := clsN_ok T hcl
      split
      · rename_i e es i hi
        exact so_cm (ctF_ok T hi) hx hm hdb h3 h4 h2 hA
      · exact so_bad'
    split
    · rename_i tab ht
      cases args with
      | nil => exact so_bm0 (bmOf_ok ht) h1 h2 (R.E sc o)
      | cons e es => exact so_bm (bmOf_ok ht) h1 h3 h4 h2 (R.E sc o) hA
    · cases args with
      | nil => exact so_meth0 (cmF_ok T m _) h1 h2 (R.E sc o)
      | cons e es => exact so_meth (cmF_ok T m _) h1 h3 h4 h2 (R.E sc o) hA
  · exact so_bad'
end
end MP
end
section
set_option autoImplicit false
set_option linter.all false
namespace MP
open PySem L2
section
variable {g : G} {lv : Nat} {N : List Str} {tb : Tb} {cf : Cf} {wf : Nat} {r : Ev}
def NoEx (f : Fg) : Prop := ∀ v env h c fs h', f v env h ≠ .ex c fs h'
def NoExs (f : Fgs) : Prop := ∀ v env h c fs h', f v env h ≠ .ex c fs h'
theorem gOf_ok (sc : Scope) : ∀ n, (∀ e f sl, gOf N sc n e = some (f, sl) → SoG g lv N sc sl f e ∧ NoEx f) ∧ (∀ es f sl, gsOf N sc n es = some (f, sl) → SoGs g lv N sc sl f es ∧ NoExs f) := by
  have nm : ∀ (x : Str) (p : Pos) (f : Fg) (sl : List Nat), (if sc.names.lookup x = some .local ∨ sc.names.lookup x = some .cell then (idx N x).map fun i => (gNm i, [i]) else none) = some (f, sl) → SoG g lv N sc sl f (.Name x p) ∧ NoEx f := fun x p f sl e => by
    split at e
    · rename_i hx
      obtain ⟨i, e1, e2⟩ := Option.map_eq_some_iff.mp e
      cases e2
      exact ⟨g_name (idx_get e1) hx, fun v env h c fs h' z => nomatch z⟩
    · cases e
  have nil : ∀ (f : Fgs) (sl : List Nat), some (gsNil, ([] : List Nat)) = some (f, sl) → SoGs g lv N sc sl f [] ∧ NoExs f := fun f sl e => by
    cases e
    exact ⟨gs_nil, fun v env h c fs h' z => by unfold gsNil at z; split at z <;> exact nomatch z⟩
  intro n
  induction n with
  | zero =>
    refine ⟨fun e f sl h => ?_, fun es f sl h => ?_⟩
    · cases e <;> first
        | (rename_i x p; exact nm x p f sl (by unfold gOf at h; exact h))
        | (unfold gOf at h; cases h)
    · cases es with
      | nil => exact nil f sl (by unfold gsOf at h; exact h)
      | cons e es => unfold gsOf at h; cases h
  | succ n ih =>
    refine ⟨fun e f sl h => ?_, fun es f sl h => ?_⟩
    · cases e <;> first
        | (rename_i x p; exact nm x p f sl (by unfold gOf at h; exact h))
        | (rename_i es k p
           unfold gOf at h
           split at h
           · rename_i hs
             obtain ⟨⟨f', sl'⟩, e1, e2⟩ := Option.map_eq_some_iff.mp h
             cases e2
             obtain ⟨a, b⟩ := ih.2 es f' _ e1
             refine ⟨g_tupq hs a, fun v env h c fs h' z => ?_⟩
             unfold gTq at z
             split at z
             · split at z
               · exact b _ _ _ _ _ _ z
               · exact nomatch z
             · split at z
               · split at z
                 · exact b _ _ _ _ _ _ z
                 · exact nomatch z
               · exact nomatch z
             · exact nomatch z
           · cases h)
        | (unfold gOf at h; cases h)
    · cases es with
      | nil => exact nil f sl (by unfold gsOf at h; exact h)
      | cons e es =>
        unfold gsOf at h
        split at h
        · rename_i f1 s1 f2 s2 e1 e2
          split at h
          · cases h
          · rename_i hst
            cases h
            obtain ⟨a1, b1⟩ := ih.1 e f1 s1 e1
            obtain ⟨a2, b2⟩ := ih.2 es f2 s2 e2
            refine ⟨gs_cons (by simpa using hst) a1 a2, fun v env h c fs h' z => ?_⟩
            unfold gsCons at z
            split at z
            · rename_i v' r'
              cases z1 : f1 v' env h with
              | ok env1 h1 => rw [z1] at z; exact b2 _ _ _ _ _ _ z
              | ex c' fs' h1 => exact b1 _ _ _ _ _ _ z1
              | bad => rw [z1] at z; exact nomatch z
            · exact nomatch z
        · cases h
theorem gqOf_ok {sc : Scope} {es : List Expr} {f : Fg} {sl : List Nat} {k : Nat} {p : Pos} (h : gqOf N sc es = some (f, sl)) : SoG g lv N sc sl f (.Tuple es k p) ∧ NoEx f := by
  unfold gqOf at h
  split at h
  · rename_i hs
    obtain ⟨⟨f', sl'⟩, e1, e2⟩ := Option.map_eq_some_iff.mp h
    cases e2
    obtain ⟨a, b⟩ := (gOf_ok sc 7).2 es f' _ e1
    refine ⟨g_tupq hs a, fun v env h c fs h' z => ?_⟩
    unfold gTq at z
    split at z
    · split at z
      · exact b _ _ _ _ _ _ z
      · exact nomatch z
    · split at z
      · split at z
        · exact b _ _ _ _ _ _ z
        · exact nomatch z
      · exact nomatch z
    · exact nomatch z
  · cases h
theorem gsQ_ok {sc : Scope} : ∀ {es : List Expr} {f : Fgs} {sl : List Nat}, gsQ N sc es = some (f, sl) → SoGs g lv N sc sl f es ∧ NoExs f
  | [], f, sl, h => by
    unfold gsQ at h
    cases h
    exact ⟨gs_nil, fun v env h c fs h' z => by unfold gsNil at z; split at z <;> exact nomatch z⟩
  | e :: es, f, sl, h => by
    unfold gsQ at h
    split at h
    · rename_i f1 s1 f2 s2 e1 e2
      split at h
      · cases h
      · rename_i hst
        cases h
        obtain ⟨a1, b1⟩ : SoG g lv N sc s1 f1 e ∧ NoEx f1 := by
          split at e1
          · exact gqOf_ok e1
          · exact (gOf_ok sc 7).1 e f1 s1 e1
        obtain ⟨a2, b2⟩ := gsQ_ok e2
        refine ⟨gs_cons (by simpa using hst) a1 a2, fun v env h c fs h' z => ?_⟩
        unfold gsCons at z
        split at z
        · rename_i v' r'
          cases z1 : f1 v' env h with
          | ok env1 h1 => rw [z1] at z; exact b2 _ _ _ _ _ _ z
          | ex c' fs' h1 => exact b1 _ _ _ _ _ _ z1
          | bad => rw [z1] at z; exact nomatch z
        · exact nomatch z
    · cases h
theorem gOfQ_ok {sc : Scope} {t : Expr} {f : Fg} {sl : List Nat} (h : gOfQ N sc t = some (f, sl)) : SoG g lv N sc sl f t ∧ NoEx f := by
  unfold gOfQ at h
  split at h
  · split at h
    · rename_i hs
      obtain ⟨⟨f', sl'⟩, e1, e2⟩ := Option.map_eq_some_iff.mp h
      cases e2
      obtain ⟨a, b⟩ := gsQ_ok e1
      refine ⟨g_tup hs a, fun v env h c fs h' z => ?_⟩
      unfold gTp at z
      split at z
      · split at z
        · exact b _ _ _ _ _ _ z
        · exact nomatch z
      · exact nomatch z
    · cases h
  · cases h
theorem isBlt_ok {o : Option GN} (h : isBlt o = true) : o = some .blt := by
  unfold isBlt at h
  split at h
  · rfl
  · cases h
theorem isTup_ok {t : Expr} (h : isTup t = true) : ∃ es k p, t = .Tuple es k p := by
  unfold isTup at h
  split at h
  · exact ⟨_, _, _, rfl⟩
  · cases h
theorem so_relIf {b : Bool} {f : Fe} {sc : Scope} {e : Expr} (h : SoE g lv N sc f e) : SoE g lv N sc (relIf b f) e := by
  cases b
  · exact h
  · exact so_rel h
theorem iOf_ok (T : TbOk g lv tb cf) (R : EvOk g lv N r) (sc : Scope) (tg it : Expr) : SoI g lv N sc (iOf tb r sc tg it) tg it := by
  have dflt : ∀ it, SoI g lv N sc (iVal (r.E sc it)) tg it := fun it => i_val (R.E sc it)
  unfold iOf
  split
  · rename_i e m apos cpos
    split
    · rename_i hc
      obtain ⟨h1, h2, rfl⟩ := hc
      split
      · exact i_items h1 h2 (R.E sc e)
      · exact dflt _
    · split
      · rename_i hc
        obtain ⟨h1, h2, rfl⟩ := hc
        exact i_vals h1 h2 (R.E sc e)
      · exact dflt _
  · rename_i x p a pos
    split
    · rename_i hc
      obtain ⟨rfl, h1, h2, h3⟩ := hc
      have hb : tb.gn "range" = some .blt := isBlt_ok h2
      exact i_rng1 h1 (T.blt _ hb) h3 (ok_as (R.E sc) [a])
    · split
      · rename_i hc
        obtain ⟨rfl, h1, h2, h3, h4⟩ := hc
        obtain ⟨es, kk, tp, rfl⟩ := isTup_ok h4
        have hb : tb.gn "enumerate" = some .blt := isBlt_ok h2
        exact i_enum h1 (T.blt _ hb) h3 (ok_as (R.E sc) [a])
      · exact dflt _
  · rename_i x p a b pos
    split
    · rename_i hc
      obtain ⟨rfl, h1, h2, h3, h4⟩ := hc
      have hb : tb.gn "range" = some .blt := isBlt_ok h2
      exact i_rng2 h1 (T.blt _ hb) h3 h4 (ok_as (R.E sc) [a, b])
    · split
      · rename_i hc
        obtain ⟨rfl, h1, h2, h3, h4, h5⟩ := hc
        obtain ⟨es, kk, tp, rfl⟩ := isTup_ok h5
        have hb : tb.gn "zip" = some .blt := isBlt_ok h2
        exact i_zip h1 (T.blt _ hb) h3 h4 (ok_as (R.E sc) [a, b])
      · exact dflt _
  · exact dflt _
theorem pOf_ok (R : EvOk g lv N r) (sc : Scope) : ∀ o, SoP g lv N sc (pOf r sc o) o
  | none => sp_none
  | some e => sp_some (R.E sc e)
theorem ifsOf_ok (R : EvOk g lv N r) (sc : Scope) {ifs : List Expr} {f : Ft} (e : ifsOf r sc ifs = some f) : SoTs g lv N sc f ifs := by
  match ifs, e with
  | [], e => cases e; exact ts_nil
  | [c], e => cases e; exact ts_one (R.T sc c)
  | _ :: _ :: _, e => cases e
structure CpOk (g : G) (lv : Nat) (N : List Str) (sc scope : Scope) (gens : List Comprehension) (c : Cp) : Prop where
  ex : ∃ (tg it : Expr) (ifs : List Expr) (own : List (Str × Nat)) (sl : List Nat), gens = [⟨tg, it, ifs, 0⟩] ∧ c.own = own.map (·.2) ∧ isSet it = false ∧ blkC N sc scope own = true ∧ (∀ i ∈ sl, i ∈ own.map (·.2)) ∧ NoEx c.ft ∧ SoI g lv N sc c.fi tg it ∧ SoG g lv N scope sl c.ft tg ∧ SoTs g lv N scope c.fc ifs
theorem cpOf_ok (T : TbOk g lv tb cf) (R : EvOk g lv N r) {sc scope : Scope} {gens : List Comprehension} {c : Cp} (e : cpOf tb N r sc gens scope = some c) : CpOk g lv N sc scope gens c := by
  unfold cpOf at e
  split at e
  · rename_i tg it ifs a
    split at e
    · rename_i hc
      obtain ⟨rfl, h1, h2⟩ := hc
      split at e
      · rename_i ft sl fc e1 e2
        split at e
        · rename_i hs
          cases e
          obtain ⟨a1, b1⟩ := (gOf_ok scope 8).1 tg ft sl e1
          exact ⟨tg, it, ifs, ownOf N scope, sl, rfl, rfl, h1, h2, fun i hi => of_decide_eq_true (List.all_eq_true.mp hs i hi), b1, iOf_ok T R sc tg it, a1, ifsOf_ok R scope e2⟩
        · cases e
      · cases e
    · cases e
  · cases e
structure Cp2Ok (g : G) (lv : Nat) (N : List Str) (sc scope : Scope) (gens : List Comprehension) (c : Cp2) : Prop where
  ex : ∃ (tg it tg1 it1 : Expr) (ifs ifs1 : List Expr) (own : List (Str × Nat)) (sl : List Nat), gens = [⟨tg, it, ifs, 0⟩, ⟨tg1, it1, ifs1, 0⟩] ∧ c.own = own.map (·.2) ∧ isSet it = false ∧ isSet it1 = false ∧ blkC N sc scope own = true ∧ (∀ i ∈ sl, i ∈ own.map (·.2)) ∧ (∀ i ∈ c.sl1, i ∈ own.map (·.2)) ∧ NoEx c.ft ∧ NoEx c.ft1 ∧ SoI g lv N sc c.fi tg it ∧ SoG g lv N scope sl c.ft tg ∧ SoTs g lv N scope c.fc ifs ∧ SoI g lv N scope c.fi1 tg1 it1 ∧ SoG g lv N scope c.sl1 c.ft1 tg1 ∧ SoTs g lv N scope c.fc1 ifs1
theorem cp2Of_ok (T : TbOk g lv tb cf) (R : EvOk g lv N r) {sc scope : Scope} {gens : List Comprehension} {c : Cp2} (e : cp2Of tb N r sc gens scope = some c) : Cp2Ok g lv N sc scope gens c := by
  unfold cp2Of at e
  split at e
  · rename_i tg it ifs a tg1 it1 ifs1 a1
    split at e
    · rename_i hc
      obtain ⟨⟨rfl, rfl⟩, ⟨h1, h1'⟩, h2⟩ := hc
      split at e
      · rename_i ft sl fc ft1 sl1 fc1 e1 e2 e3 e4
        split at e
        · rename_i hs
          cases e
          obtain ⟨hs1, hs2⟩ := Bool.and_eq_true_iff.mp hs
          obtain ⟨a1, b1⟩ := (gOf_ok scope 8).1 tg ft sl e1
          obtain ⟨a2, b2⟩ := (gOf_ok scope 8).1 tg1 ft1 sl1 e3
          exact ⟨tg, it, tg1, it1, ifs, ifs1, ownOf N scope, sl, rfl, rfl, h1, h1', h2, fun i hi => of_decide_eq_true (List.all_eq_true.mp hs1 i hi), fun i hi => of_decide_eq_true (List.all_eq_true.mp hs2 i hi), b1, b2, iOf_ok T R sc tg it, a1, ifsOf_ok R scope e2, iOf_ok T R scope tg1 it1, a2, ifsOf_ok R scope e4⟩
        · cases e
      · cases e
    · cases e
  · cases e
theorem isRev_ok {lo hi st : Option Expr} (h : isRev lo hi st = true) : ∃ k p1 p2, lo = none ∧ hi = none ∧ st = some (.UnaryOp .USub (.Constant (.int 1) k p1) p2) := by
  unfold isRev at h
  split at h
  · rename_i i k p1 p2
    cases of_decide_eq_true h
    exact ⟨k, p1, p2, rfl, rfl, rfl⟩
  · cases h
theorem dispF_ok {sc : Scope} {f : Expr → Fe} (F : ∀ e, SoE g lv N sc (f e) e) : ∀ {ks : List (Option Expr)} {vs : List Expr} {fs : List (Fe × Fe)}, dispF f ks vs = some fs → SoDp g lv N sc fs ks vs
  | [], [], fs, e => by cases e; exact .nil
  | some k :: ks, v :: vs, fs, e => by
    obtain ⟨r, e1, rfl⟩ := Option.map_eq_some_iff.mp (show (dispF f ks vs).map (fun r => (f k, f v) :: r) = some fs from e)
    exact .cons (F k) (F v) (dispF_ok F e1)
  | none :: _, _, fs, e => by cases e
  | some _ :: _, [], fs, e => by cases e
  | [], _ :: _, fs, e => by cases e
theorem joined_ok {sc : Scope} {f : Expr → Fe} (F : ∀ e, SoE g lv N sc (f e) e) : ∀ es : List Expr, SoJ g lv N sc (es.map f) es
  | [] => .nil
  | e :: es => .cons (F e) (joined_ok F es)
theorem stepE_ok (T : TbOk g lv tb cf) (R : EvOk g lv N r) (sc : Scope) (e : Expr) : SoE g lv N sc (stepE tb cf N r sc e) e := by
  cases e <;> unfold stepE
  case Name x p => exact ok_name T sc x p
  case Constant c k p => exact ok_const sc c k p
  case BinOp a op b p =>
    dsimp only
    split
    · rename_i fo hf
      exact sp_bin (binF_ok T hf) (R.E sc a) (R.E sc b)
    · exact so_bad'
  case UnaryOp op a p =>
    cases op
    case Not => exact so_not (R.E sc a)
    case USub => exact so_neg (R.E sc a)
    all_goals exact so_bad'
  case BoolOp op es p =>
    cases op
    · exact ok_andE (R.E sc) es
    · exact ok_orE (R.E sc) es
  case Compare a ops bs p =>
    dsimp only
    split
    · rename_i op b
      split
      · rename_i hm
        exact sp_cmp hm (cmpX_ok T op b) (R.E sc a) (R.E sc b)
      · exact so_bad'
    · rename_i op op' b c
      split
      · rename_i fo fo' h1 h2
        split
        · rename_i hm
          exact so_chain hm (cmp0_ok h1) (cmp0_ok h2) (R.E sc a) (R.E sc b) (R.E sc c)
        · exact so_bad'
      · exact so_bad'
    · exact so_bad'
  case IfExp c a b p => exact so_ifx (R.T sc c) (R.E sc a) (R.E sc b)
  case Tuple es k p =>
    dsimp only
    split
    · exact so_tup0
    · exact so_tup (ok_as (R.E sc) _)
  case List es p => exact so_lst (ok_as (R.E sc) es)
  case Dict ks vs p =>
    dsimp only
    split
    · exact so_dnew
    · exact so_mix2 (R.E sc _) (R.E sc _)
    · split
      · rename_i hl
        split
        · rename_i fs hf
          exact so_disp (dispF_ok (R.E sc) hf) (List.cons_ne_nil _ _) hl
        · exact so_bad'
      · exact so_bad'
    · exact so_bad'
  case JoinedStr vs p =>
    dsimp only
    split
    · exact so_bad'
    · exact so_joined1 (R.E sc _)
    · exact so_joined (joined_ok (R.E sc) _)
  case FormattedValue e conv spec p =>
    dsimp only
    split
    · split
      · rename_i h
        subst h
        exact so_fmt (R.E sc e)
      · exact so_bad'
    · exact so_bad'
  case Call f args kws pos =>
    dsimp only
    split
    · split
      · rename_i fe hf
        exact vNew_ok T R hf
      · exact ok_call T R sc _ args _ pos
    · exact vNewK_ok T R
    · exact ok_meth T R sc _ _ _ args pos
    · exact so_bad'
  case Attribute o f p =>
    dsimp only
    split
    · rename_i h
      split
      · rename_i hx
        exact so_attrX (prF_ok T f) (T.na · f) (T.xx hx).xf h (R.E sc o)
      · exact so_attr (prF_ok T f) (T.na · f) h (R.E sc o)
    · exact so_bad'
  case Subscript a i p =>
    dsimp only
    split
    · rename_i lo hi st p'
      split
      · exact so_slice (R.E sc a) (pOf_ok R sc lo) (pOf_ok R sc hi)
      · rename_i st'
        split
        · rename_i hr
          obtain ⟨k, p1, p2, rfl, rfl, h3⟩ := isRev_ok hr
          cases h3
          exact so_rev (R.E sc a)
        · exact so_bad'
    · rename_i hn
      refine so_ix ?_ (R.E sc a) (R.E sc i)
      cases i <;> first | rfl | exact absurd rfl (hn _ _ _ _)
  case ListComp elt gens scope p =>
    dsimp only
    split
    · rename_i c hc
      obtain ⟨tg, it, ifs, own, sl, rfl, ho, h1, h2, h3, h4, h5, h6, h7⟩ := (cpOf_ok T R hc).ex
      rw [ho]
      exact so_relIf (so_lc h1 h2 h3 h4 h5 h6 h7 (R.E scope elt))
    · split
      · rename_i c hc
        obtain ⟨tg, it, tg1, it1, ifs, ifs1, own, sl, rfl, ho, h1, h1', h2, h3, h3', h4, h4', h5, h6, h7, h5', h6', h7'⟩ := (cp2Of_ok T R hc).ex
        rw [ho]
        exact so_lc2 h1 h1' h2 h3 h3' h4 h4' h5 h6 h7 h5' h6' h7' (R.E scope elt)
      · exact so_bad'
  case DictComp k v gens scope p =>
    dsimp only
    split
    · rename_i c hc
      obtain ⟨tg, it, ifs, own, sl, rfl, ho, h1, h2, h3, h4, h5, h6, h7⟩ := (cpOf_ok T R hc).ex
      rw [ho]
      exact so_dc h1 h2 h3 h4 h5 h6 h7 (R.E scope k) (R.E scope v)
    · exact so_bad'
  all_goals exact so_bad'
theorem stepT_ok (T : TbOk g lv tb cf) (R : EvOk g lv N r) (sc : Scope) (e : Expr) : SoT g lv N sc (stepT tb cf r sc e) e := by
  cases e <;> unfold stepT
  case UnaryOp op a p =>
    cases op
    case Not => exact st_not (R.T sc a)
    all_goals exact st_val rfl (R.E sc _)
  case BoolOp op es p =>
    cases op
    · exact (ok_andT (R.T sc) es).t
    · exact (ok_orT (R.T sc) es).t
  case Compare a ops bs p =>
    dsimp only
    split
    · rename_i op b
      split
      · rename_i hm
        exact tp_cmp hm (cmpX_ok T op b) (R.E sc a) (R.E sc b)
      · exact st_bad
    · rename_i op op' b c
      split
      · rename_i fo fo' h1 h2
        split
        · rename_i hm
          exact st_chain hm (cmp0_ok h1) (cmp0_ok h2) (R.E sc a) (R.E sc b) (R.E sc c)
        · exact st_bad
      · exact st_bad
    · exact st_bad
  case IfExp => exact st_bad
  all_goals exact st_val rfl (R.E sc _)
end
end MP
end
section
set_option autoImplicit false
set_option linter.all false
namespace MP
open PySem L2
section
variable {g : G} {lv : Nat} {N : List Str} {tb : Tb} {cf : Cf} {wf : Nat} {r : Ev}
theorem s_relIf {b : Bool} {i : Nat} {f : Fe} {sc : Scope} {st : Stmt} (hs : SoS g lv N sc (sSetE i f) st) : SoS g lv N sc (sSetE i (relIf b f)) st := by
  cases b with
  | false => exact hs
  | true =>
    intro X W G ρ h H env σ D r er q
    refine hs X W G ρ h H env σ D r er ?_
    have q' : QS g W ρ h H (liftS (relR h (f env h)) env fun v h1 => .nx (env.set i (some v)) h1) D := q
    show QS g W ρ h H (liftS (f env h) env fun v h1 => .nx (env.set i (some v)) h1) D
    cases z : f env h with
    | bad => rw [z] at q'; exact q'
    | ok v h' =>
      rw [z] at q'
      exact fun ρ' H' σ' s1 r1 e1 => q' ρ' H' σ' (rel_stp s1) (rel_rel r1) (by rw [relH_len]; exact e1)
    | ex c fs h' =>
      rw [z] at q'
      exact fun ρ' H' σ' d xs s1 r1 e1 x1 k1 => q' ρ' H' σ' d xs (rel_stp s1) (rel_rel r1) (by rw [relH_len]; exact e1) x1 (by rw [relH_len]; exact k1)
theorem kind_loc {env : PySem.Env} {sc : Scope} (h : ScR env.scope sc) {x : Str} (hx : sc.names.lookup x = some .local) : env.kindOf x = some NameKind.local := by
  unfold Env.kindOf
  exact h.same (by decide) hx
theorem blockFn {env : PySem.Env} (h : env.scope.kind = .function) : env.blockKind = .function := by
  unfold Env.blockKind
  rw [h]; rfl
theorem anyNo {f : Expr → Bool} (hf : ∀ e, isSt e = false → f e = false) : ∀ {vs : List Expr}, vs.all (fun e => !isSt e) = true → vs.any f = false
  | [], _ => rfl
  | e :: es, h => by
    simp only [List.all_cons, Bool.and_eq_true, Bool.not_eq_true'] at h
    rw [List.any_cons, hf e h.1, anyNo hf h.2]; rfl
theorem dups2 {x y : Str} (h : x ≠ y) : [x, y].eraseDups.length = 2 := by
  have : (y == x) = false := by simpa using fun e => h e.symm
  simp [List.eraseDups_cons, this]
theorem dups3 {x y z : Str} (h : x ≠ y) (h2 : x ≠ z) (h3 : y ≠ z) : [x, y, z].eraseDups.length = 3 := by
  have e1 : (y == x) = false := by simpa using fun e => h e.symm
  have e2 : (z == x) = false := by simpa using fun e => h2 e.symm
  have e3 : (z == y) = false := by simpa using fun e => h3 e.symm
  simp [List.eraseDups_cons, e1, e2, e3]
theorem swap2 {sc : Scope} {x y : Str} {px py pt pt2 : Pos} {kt k2 : Nat} {a b : Expr} (hx : sc.names.lookup x = some .local) (hy : sc.names.lookup y = some .local) (hxy : x ≠ y) (hl : (px.line == py.line) = true) (hf : foldAll [a, b] = false) (hc : [a, b].all (constantsAlone 8) = false) (ha : isSt a = false) (hb : isSt b = false)
    (env : PySem.Env) (hS : ScR env.scope sc) (hk : env.scope.kind = .function) : swappedStores [.Tuple [.Name x px, .Name y py] kt pt] (.Tuple [a, b] k2 pt2) env = pure (some [x, y]) := by
  have kx := kind_loc hS hx
  have ky := kind_loc hS hy
  have hl' : (py.line == px.line) = true := by rw [beq_iff_eq] at *; exact hl.symm
  have hp : (px.line == px.line) = true := by simp
  unfold foldAll at hf
  unfold swappedStores
  dsimp only
  rw [if_neg (by rw [blockFn hk]; exact Bool.false_ne_true), if_neg (by rw [anyNo (fun e h => by cases e <;> first | rfl | cases h) (by simp [ha, hb])]; decide)]
  simp only [List.filterMap_cons, List.filterMap_nil, kx, ky, List.head?_cons, Option.map_some, Option.getD_some, Expr.pos, hl', hp, beq_self_eq_true, Bool.and_true, if_true]
  rw [if_neg (by rw [dups2 hxy]; exact Bool.false_ne_true), if_neg (by rw [hf]; decide), if_neg (by rw [hc]; decide)]
theorem swap3 {sc : Scope} {x y z : Str} {px py pz pt pt2 : Pos} {kt k2 : Nat} {a b c : Expr} (hx : sc.names.lookup x = some .local) (hy : sc.names.lookup y = some .local) (hz : sc.names.lookup z = some .local) (hxy : x ≠ y) (hxz : x ≠ z) (hyz : y ≠ z) (hl : (px.line == py.line) = true) (hm : (px.line == pz.line) = true)
    (hf : foldAll [a, b, c] = false) (hc : [a, b, c].all (constantsAlone 8) = false) (ha : isSt a = false) (hb : isSt b = false) (hcc : isSt c = false)
    (env : PySem.Env) (hS : ScR env.scope sc) (hk : env.scope.kind = .function) : swappedStores [.Tuple [.Name x px, .Name y py, .Name z pz] kt pt] (.Tuple [a, b, c] k2 pt2) env = pure (some [x, y, z]) := by
  have kx := kind_loc hS hx
  have ky := kind_loc hS hy
  have kz := kind_loc hS hz
  have hl' : (py.line == px.line) = true := by rw [beq_iff_eq] at *; exact hl.symm
  have hm' : (pz.line == px.line) = true := by rw [beq_iff_eq] at *; exact hm.symm
  have hp : (px.line == px.line) = true := by simp
  unfold foldAll at hf
  unfold swappedStores
  dsimp only
  rw [if_neg (by rw [blockFn hk]; exact Bool.false_ne_true), if_neg (by rw [anyNo (fun e h => by cases e <;> first | rfl | cases h) (by simp [ha, hb, hcc])]; decide)]
  simp only [List.filterMap_cons, List.filterMap_nil, kx, ky, kz, List.head?_cons, Option.map_some, Option.getD_some, Expr.pos, hl', hm', hp, beq_self_eq_true, Bool.and_true, if_true]
  rw [if_neg (by rw [dups3 hxy hxz hyz]; exact Bool.false_ne_true), if_neg (by rw [hf]; decide), if_neg (by rw [hc]; decide)]
theorem noSwap_tup {ts vs : List Expr} {k k' : Nat} {p p' : Pos} (h : (foldAll vs || !(ts.length == 2 || ts.length == 3)) = true) (env : PySem.Env) : swappedStores [.Tuple ts k p] (.Tuple vs k' p') env = pure none := by
  unfold swappedStores
  dsimp only
  by_cases h1 : (!(ts.length == 2 || ts.length == 3) || vs.length != ts.length || env.blockKind != ScopeKind.function) = true
  · rw [if_pos h1]
  · rw [if_neg h1]
    split
    · rfl
    · split
      · rfl
      · rw [if_pos]
        rcases Bool.or_eq_true_iff.mp h with h | h
        · exact h
        · rw [h] at h1; simp at h1
theorem noSwap_ok {t e : Expr} (h : noSwap t e = true) : swappedStores [t] e = fun _ => pure none := by
  funext env
  cases t <;> first
    | rfl
    | (cases e <;> first
        | rfl
        | exact noSwap_tup h env
        | cases h)
theorem filt_lt {α β : Type} {f : α → Option β} : ∀ {l : List α} {a : α}, a ∈ l → f a = none → (l.filterMap f).length < l.length
  | b :: l, a, h, e => by
    rw [List.filterMap_cons]
    rcases List.mem_cons.mp h with rfl | h
    · rw [e]
      exact Nat.lt_succ_of_le (List.length_filterMap_le _ _)
    · have ih := filt_lt h e
      cases f b with
      | none => exact Nat.lt_succ_of_lt ih
      | some c => exact Nat.succ_lt_succ ih
theorem cellIn_ok {sc : Scope} {ts vs : List Expr} {k k' : Nat} {p p' : Pos} (h : cellIn sc ts = true) (env : PySem.Env) (hS : ScR env.scope sc) : swappedStores [.Tuple ts k p] (.Tuple vs k' p') env = pure none := by
  obtain ⟨t, ht, hc⟩ := List.any_eq_true.mp h
  unfold swappedStores
  dsimp only
  split
  · rfl
  · split
    · rfl
    · rw [if_pos]
      rw [Bool.or_eq_true]
      refine .inl ?_
      have key : ∀ {f : Expr → Option Str}, f t = none → ((ts.filterMap f).length != ts.length) = true := fun {f} e => by
        exact bne_iff_ne.mpr (Nat.ne_of_lt (filt_lt ht e))
      apply key
      cases t with
      | Name x px =>
        have hx : sc.names.lookup x = some .cell := of_decide_eq_true hc
        have kx : env.kindOf x = some .cell := by
          unfold Env.kindOf
          exact hS.same (by decide) hx
        dsimp only
        rw [kx]
        rfl
      | _ => rfl
theorem sole_tup {ts : List Expr} {k : Nat} {p : Pos} {e : Expr} (n : Nat) : swapsWithSole [.Tuple ts k p] e n = fun _ => pure false := by
  funext env
  show swapsWith e (some (.Tuple ts k p)) n env = pure false
  unfold swapsWith
  cases e <;> rfl
theorem s_asgC {sc : Scope} {f : Fe} {ft : Fg} {sl : List Nat} {t e : Expr} {pos : Pos} (h1 : swapsWithSole [t] e pos.line = fun _ => pure false) (h2 : ∀ env : PySem.Env, ScR env.scope sc → swappedStores [t] e env = pure none) (h3 : isSt t = false) (hx : ∀ v env h c fs h', ft v env h ≠ .ex c fs h')
    (he : SoE g lv N sc f e) (ht : SoG g lv N sc sl ft t) : SoS g lv N sc (sAsg f ft) (.Assign [t] e pos) := by
  intro X W G ρ h H env σ D r er q
  refine (ps_asg (self_e X e) (self_g X t) (by rw [h1]) (h2 X.env G.hsc) (each_one h3 X.env)).se ?_
  refine he X W G ρ h H env σ _ r er (QR.imp (QS.lift r er q) fun x H1 ⟨ρ1, h1, v, s1, r1, t1, _, q1⟩ => ?_)
  exact ht X W G ρ1 h1 H1 env σ v x D.nx r1 (er.step r s1) t1 (QS.asg q1 (hx v env h1))
theorem sole_comp {t e : Expr} (h : isComp e = false) (n : Nat) : swapsWithSole [t] e n = fun _ => pure false := by
  funext env
  exact swaps_no h (some t) n env
theorem gOf_st {sc : Scope} {n : Nat} {t : Expr} {f : Fg} {sl : List Nat} (h : gOf N sc n t = some (f, sl)) : isSt t = false := by
  cases t <;> first
    | rfl
    | (cases n <;> (unfold gOf at h; cases h))
theorem gOfQ_st {sc : Scope} {t : Expr} {f : Fg} {sl : List Nat} (h : gOfQ N sc t = some (f, sl)) : isSt t = false := by
  cases t <;> first
    | rfl
    | (unfold gOfQ at h; cases h)
theorem ok_assign (T : TbOk g lv tb cf) (R : EvOk g lv N r) (sc : Scope) (t e : Expr) (p : Pos) : SoS g lv N sc (vAssign tb N r sc t e) (.Assign [t] e p) := by
  have plain : ∀ (t e : Expr), isComp e = false → noSwap t e = true → SoS g lv N sc (match gOf N sc 8 t with
      | some (ft, _) => sAsg (r.E sc e) ft
      | none => sBad) (.Assign [t] e p) := fun t e h1 h2 => by
    split
    · rename_i ft sl hg
      obtain ⟨a, b⟩ := (gOf_ok sc 8).1 t ft sl hg
      exact s_asg (sole_comp h1 _) (noSwap_ok h2) (gOf_st hg) b (R.E sc e) a
    · exact s_bad'
  have plainQ : ∀ (t e : Expr), isComp e = false → noSwap t e = true → SoS g lv N sc (match gOfQ N sc t with
      | some (ft, _) => sAsg (r.E sc e) ft
      | none => sBad) (.Assign [t] e p) := fun t e h1 h2 => by
    split
    · rename_i ft sl hg
      obtain ⟨a, b⟩ := gOfQ_ok hg
      exact s_asg (sole_comp h1 _) (noSwap_ok h2) (gOfQ_st hg) b (R.E sc e) a
    · exact s_bad'
  cases t <;> unfold vAssign
  case Attribute o f p' => exact s_fld (T.na · f) (.inr True.intro) (R.E sc o) (R.E sc e)
  case Subscript o i p' =>
    dsimp only
    split
    · rename_i h
      exact s_sub h (R.E sc o) (R.E sc i) (R.E sc e)
    · exact s_bad'
  case Tuple ts k p' =>
    dsimp only
    split
    · rename_i vs k2 p2
      split
      · rename_i i j hp
        unfold par2 at hp
        split at hp
        · rename_i x px y py a b
          split at hp
          · rename_i hc
            obtain ⟨hx, hy, hxy, hl, hf, hcc, ha, hb⟩ := hc
            split at hp
            · rename_i i' j' hi hj
              cases hp
              refine s_par (idx_get hi) (idx_get hj) (fun z => ?_) hx hy (swap2 hx hy hxy hl hf hcc ha hb) (ok_as (R.E sc) _)
              subst z
              have e1 := idx_get hi
              rw [idx_get hj] at e1
              exact hxy (Option.some.inj e1).symm
            · cases hp
          · cases hp
        · cases hp
      · split
        · rename_i i j l hp
          unfold par3 at hp
          split at hp
          · rename_i x px y py z pz a b c
            split at hp
            · rename_i hc
              obtain ⟨hx, hy, hz, hxy, hxz, hyz, hl, hm, hf, hcc, ha, hb, hc'⟩ := hc
              split at hp
              · rename_i i' j' l' hi hj hk
                cases hp
                have ne : ∀ {m n : Nat} {u v : Str}, idx N u = some m → idx N v = some n → u ≠ v → m ≠ n := fun {m n u v} h1 h2 h3 z => by
                  subst z
                  have e1 := idx_get h1
                  rw [idx_get h2] at e1
                  exact h3 (Option.some.inj e1).symm
                exact s_par3 (idx_get hi) (idx_get hj) (idx_get hk) (ne hi hj hxy) (ne hi hk hxz) (ne hj hk hyz) hx hy hz (swap3 hx hy hz hxy hxz hyz hl hm hf hcc ha hb hc') (ok_as (R.E sc) _)
              · cases hp
            · cases hp
          · cases hp
        · split
          · rename_i hn
            rcases Bool.or_eq_true_iff.mp hn with hn | hn
            · exact plainQ _ _ rfl hn
            · split
              · rename_i ft sl hg
                obtain ⟨a, b⟩ := gOfQ_ok hg
                exact s_asgC (sole_comp rfl _) (fun env hS => cellIn_ok hn env hS) (gOfQ_st hg) b (R.E sc _) a
              · exact s_bad'
          · exact s_bad'
    · rename_i hn
      split
      · rename_i ft sl hg
        obtain ⟨a, b⟩ := gqOf_ok (k := k) (p := p') hg
        exact s_asg (sole_tup _) (noSwap_ok (by cases e <;> first | rfl | exact absurd rfl (hn _ _ _))) rfl b (R.E sc e) a
      · exact s_bad'
  case Name y py =>
    dsimp only
    split
    · rename_i elt gens scope pos
      split
      · rename_i i c hi hc
        obtain ⟨tg, it, ifs, own, sl, rfl, ho, h1, h2, h3, h4, h5, h6, h7⟩ := (cpOf_ok T R hc).ex
        unfold setLc at hi
        dsimp only at hi
        split at hi
        · rename_i hh
          obtain ⟨q1, q2, q3⟩ := hh
          rw [ho]
          refine s_relIf (s_setLc (idx_get hi) q1 (fun env hS hk => ?_) h1 h2 h3 h4 h5 h6 h7 (R.E scope elt))
          unfold swapsWith
          have q2' : (py.line == (Expr.ListComp elt [⟨tg, it, ifs, 0⟩] scope pos).pos.line) = true := q2
          dsimp only
          rw [blockFn hk, kind_loc hS q1, q2', q3]
          rfl
        · cases hi
      · rename_i i hi _
        split
        · rename_i c hc
          obtain ⟨tg, it, tg1, it1, ifs, ifs1, own, sl, rfl, ho, h1, h1', h2, h3, h3', h4, h4', h5, h6, h7, h5', h6', h7'⟩ := (cp2Of_ok T R hc).ex
          unfold setLc at hi
          dsimp only at hi
          split at hi
          · rename_i hh
            obtain ⟨q1, q2, q3⟩ := hh
            rw [ho]
            refine s_setLc2 (idx_get hi) q1 (fun env hS hk => ?_) h1 h1' h2 h3 h3' h4 h4' h5 h6 h7 h5' h6' h7' (R.E scope elt)
            unfold swapsWith
            have q2' : (py.line == (Expr.ListComp elt [⟨tg, it, ifs, 0⟩, ⟨tg1, it1, ifs1, 0⟩] scope pos).pos.line) = true := q2
            dsimp only
            rw [blockFn hk, kind_loc hS q1, q2', q3]
            rfl
          · cases hi
        · exact s_bad'
      · exact s_bad'
    · split
      · rename_i hc
        exact plain _ e hc rfl
      · exact s_bad'
  all_goals exact s_bad'
theorem stepS_ok (T : TbOk g lv tb cf) (R : EvOk g lv N r) (sc : Scope) (s : Stmt) : SoS g lv N sc (stepS tb N wf r sc s) s := by
  cases s <;> unfold stepS
  case Pass => exact s_pass
  case Break => exact s_break
  case Continue => exact s_continue
  case Expr e p =>
    dsimp only
    split
    · rename_i h; exact s_expr h (R.E sc e)
    · exact s_bad'
  case Return e p =>
    cases e with
    | some e => exact s_ret (R.E sc e)
    | none => exact s_retN
  case If c a b p => exact s_if (R.T sc c) (R.Ss sc a) (R.Ss sc b)
  case Assign ts e p =>
    dsimp only
    split
    · exact ok_assign T R sc _ e p
    · exact s_bad'
  case For tg it body orelse p =>
    dsimp only
    split
    · split
      · rename_i h
        split
        · rename_i ft sl hg
          obtain ⟨a, b⟩ := (gOf_ok sc 8).1 tg ft sl hg
          exact s_for h b (iOf_ok T R sc tg it) a (R.Ss sc body)
        · exact s_bad'
      · exact s_bad'
    · exact s_bad'
  case While c body orelse p =>
    dsimp only
    split
    · exact s_while (R.T sc c) (R.Ss sc body)
    · exact s_bad'
  case AugAssign t op e p =>
    dsimp only
    unfold augF
    split
    · split
      · rename_i h
        split
        · rename_i i hi; exact s_aug (sg := false) (idx_get hi) h (R.E sc e)
        · exact s_bad'
      · exact s_bad'
    · split
      · rename_i h
        split
        · rename_i i hi; exact s_aug (sg := true) (idx_get hi) h (R.E sc e)
        · exact s_bad'
      · exact s_bad'
    · exact s_bad'
  case Raise e c p =>
    dsimp only
    unfold raiseF
    split
    · rename_i x p2 a pos
      split
      · rename_i h
        split
        · rename_i c fld hx
          obtain ⟨h1, h2, _⟩ := T.xn x c fld hx
          exact s_raise h2 T.lv2 h.1 h1 h.2.1 h.2.2 (ok_as (R.E sc) [a])
        · exact s_bad'
      · exact s_bad'
    · exact s_bad'
  all_goals exact s_bad'
theorem stepSs_ok (T : TbOk g lv tb cf) (R : EvOk g lv N r) (sc : Scope) : ∀ ss, SoSs g lv N sc (stepSs tb N wf r sc ss) ss
  | [] => ss_nil
  | s :: ss => ss_cons (stepS_ok T R sc s) (stepSs_ok T R sc ss)
theorem ss_bad {sc : Scope} {ss : List Stmt} : SoSs g lv N sc sBad ss := fun X W G ρ h H env σ Q r er q => q.elim
theorem ev_ok (T : TbOk g lv tb cf) : ∀ n, EvOk g lv N (ev tb cf N wf n)
  | 0 => ⟨fun _ _ => so_bad', fun _ _ => st_bad, fun _ _ => ss_bad⟩
  | n + 1 => ⟨fun sc e => stepE_ok T (ev_ok T n) sc e, fun sc e => stepT_ok T (ev_ok T n) sc e, fun sc ss => stepSs_ok T (ev_ok T n) sc ss⟩
theorem hAtom_ok {sc : Scope} {c i : Nat} {n fld : Str} (K : XR g c fld) (hN : N[i]? = some n) (hn : sc.names.lookup n = some .local) (hd : (n == ("__debug__" : Str)) = false) (hcd : (n == ("__classdict__" : Str)) = false) {e : Expr} {f : List (Str × Val) → Env → Option Val} (h : hAtom n e = some f) (hf : (aFlds n e).all (fun f => decide (f = fld)) = true) : SoH g lv N sc c i f e := by
  unfold hAtom at h
  split at h
  · cases h; exact h_int
  · split at h
    · rename_i hl; cases h; exact h_str (lim_le hl)
    · cases h
  · cases h; exact h_non
  · cases h; exact h_bl
  · split at h
    · rename_i he
      cases h
      subst he
      simp only [aFlds, if_true, List.all_cons, List.all_nil, Bool.and_true, decide_eq_true_eq] at hf
      subst hf
      exact h_fld K hN (.inl hn) hd hcd
    · cases h
  · cases h
theorem hAtoms_ok {sc : Scope} {c i : Nat} {n fld : Str} (K : XR g c fld) (hN : N[i]? = some n) (hn : sc.names.lookup n = some .local) (hd : (n == ("__debug__" : Str)) = false) (hcd : (n == ("__classdict__" : Str)) = false) : ∀ {es : List Expr} {l : List (List (Str × Val) → Env → Option Val)}, hAtoms n es = some l → (es.flatMap (aFlds n)).all (fun f => decide (f = fld)) = true → SoHs g lv N sc c i l es
  | [], l, h, _ => by cases h; exact .nil
  | e :: es, l, h, hf => by
    unfold hAtoms at h
    rw [List.flatMap_cons, List.all_append, Bool.and_eq_true] at hf
    cases hst : isSt e with
    | true => rw [hst, if_pos rfl] at h; cases h
    | false =>
      rw [hst, if_neg Bool.false_ne_true] at h
      cases z1 : hAtom n e with
      | none => rw [z1] at h; cases h
      | some f =>
        cases z2 : hAtoms n es with
        | none => rw [z1, z2] at h; cases h
        | some l' =>
          rw [z1, z2] at h
          cases h
          exact .cons hst (hAtom_ok K hN hn hd hcd z1 hf.1) (hAtoms_ok K hN hn hd hcd z2 hf.2)
theorem hExpr_ok {sc : Scope} {c i : Nat} {n fld : Str} (K : XR g c fld) (hN : N[i]? = some n) (hn : sc.names.lookup n = some .local) (hd : (n == ("__debug__" : Str)) = false) (hcd : (n == ("__classdict__" : Str)) = false) {e : Expr} {f : List (Str × Val) → Env → Heap → Rs Val} (h : hExpr n e = some f) (hf : (eFlds n e).all (fun f => decide (f = fld)) = true) : SoHE g lv N sc c i f e := by
  unfold hExpr at h
  split at h
  · obtain ⟨l, e1, rfl⟩ := Option.map_eq_some_iff.mp h
    exact he_tup (hAtoms_ok K hN hn hd hcd e1 hf)
  · rename_i hne
    obtain ⟨l, e1, rfl⟩ := Option.map_eq_some_iff.mp h
    refine he_atom (hAtom_ok K hN hn hd hcd e1 ?_)
    unfold eFlds at hf
    split at hf
    · rename_i es k p
      exact absurd rfl (hne es k p)
    · exact hf
theorem hSuite_ok {sc : Scope} {c i : Nat} {n fld : Str} (K : XR g c fld) (hN : N[i]? = some n) (hn : sc.names.lookup n = some .local) (hd : (n == ("__debug__" : Str)) = false) (hcd : (n == ("__classdict__" : Str)) = false) {st : List Stmt} {su : Fh} (h : hSuite N sc n st = some su) (hf : (sFlds n st).all (fun f => decide (f = fld)) = true) : SoHS g lv N sc c i su st := by
  unfold hSuite at h
  split at h
  · split at h
    · rename_i hc
      split at h
      · rename_i j f hj he
        cases h
        exact hs_set (idx_get hj) hc.1 hc.2 (hExpr_ok K hN hn hd hcd he hf)
      · cases h
    · cases h
  · obtain ⟨f, e1, rfl⟩ := Option.map_eq_some_iff.mp h
    exact hs_ret (hExpr_ok K hN hn hd hcd e1 hf)
  · cases h
theorem hdsOf_ok (T : TbOk g lv tb cf) {sc : Scope} : ∀ {hs : List ExceptHandler} {l : List (Nat × Nat × Fh)}, hdsOf tb N sc hs = some l → HdOk g lv N sc l hs
  | [], l, e => by
    unfold hdsOf at e
    cases e
    exact .nil
  | h :: hs, l, e => by
    unfold hdsOf at e
    split at e
    · rename_i a l' ha hl
      cases e
      have ih := hdsOf_ok T hl
      unfold hdOf at ha
      split at ha
      · rename_i x np n suite pos'
        split at ha
        · rename_i hc
          obtain ⟨h1, h2, h3, h4, h5, h6⟩ := hc
          split at ha
          · rename_i c fld i su hx hi hsu
            split at ha
            · rename_i hfl
              cases ha
              obtain ⟨x1, _, x3⟩ := T.xn x c fld hx
              have hS := hSuite_ok (lv := lv) x3 (idx_get hi) h3 h4 h5 hsu hfl
              cases suite with
              | nil => exact absurd rfl h6
              | cons b0 rest => exact .cons h1 h2 x1 (idx_get hi) h3 hS ih
            · cases ha
          · cases ha
        · cases ha
      · cases ha
    · cases e
theorem topS_ok (T : TbOk g lv tb cf) (R : EvOk g lv N r) (sc : Scope) (s : Stmt) : SoSF g lv N sc (topS tb N wf r sc s) s := by
  unfold topS
  split
  · rename_i body hds pos
    unfold tryF
    split
    · rename_i x np n suite pos'
      split
      · rename_i hc
        obtain ⟨h1, h2, h3, h4, h5, h6⟩ := hc
        split
        · rename_i c fld i su hx hi hsu
          split
          · rename_i hfl
            obtain ⟨x1, _, x3⟩ := T.xn x c fld hx
            have hS := hSuite_ok (lv := lv) x3 (idx_get hi) h3 h4 h5 hsu hfl
            cases suite with
            | nil => exact absurd rfl h6
            | cons b0 rest => exact s_try T.xm h1 h2 x1 (idx_get hi) h3 (R.Ss sc body) hS
          · exact s_bad'.top
        · exact s_bad'.top
      · exact s_bad'.top
    · split
      · rename_i l hl
        exact s_tryM T.xm (R.Ss sc body) (hdsOf_ok T hl)
      · exact s_bad'.top
    · exact s_bad'.top
  · exact (stepS_ok T R sc s).top
theorem topSs_ok (T : TbOk g lv tb cf) (R : EvOk g lv N r) (sc : Scope) : ∀ ss, SoSsF g lv N sc (topSs tb N wf r sc ss) ss
  | [] => sf_nil
  | s :: ss => sf_cons (topS_ok T R sc s) (topSs_ok T R sc ss)
end
end MP
end
section
set_option autoImplicit false
set_option linter.all false
namespace MP
open PySem L2 PySem.Spec PyProof.Rows
section
variable {g : G} {tb : Tb} {fns : Nat → Option Fn} {wf fuel : Nat}
theorem VRs.start {ρ : Nat → Addr} {n : Nat} {H : Hp} {N : List Str} : ∀ {args : List Val} {vs : List L2.V}, VRs g ρ n H args vs → ER g ρ n H (args.map some ++ List.replicate (N.length - args.length) none) (L2.start N vs) := fun {args vs} t => by
  unfold L2.start
  have hl := t.length
  refine ⟨by simp [hl], fun i v e => ?_⟩
  by_cases hi : i < args.length
  · rw [List.getElem?_append_left (by simpa using hi), List.getElem?_map] at e
    obtain ⟨a, e1, e2⟩ := Option.map_eq_some_iff.mp e
    cases e2
    obtain ⟨x, e3, e4⟩ := t.get e1
    exact ⟨x, by rw [List.getElem?_append_left (by simpa [← hl] using hi), List.getElem?_map, e3]; rfl, e4⟩
  · rw [List.getElem?_append_right (by simpa using Nat.le_of_not_lt hi)] at e
    rw [List.getElem?_replicate] at e
    split at e <;> cases e
/-- what the head says of a def -/
structure DefOk (g : G) (f : Fn) (a : Addr) (fd : FuncData) : Prop where
  ex : ∃ (x qual : Str) (params : Arguments) (dvs : List L2.V) (kws : List (Str × L2.V)), FunD g.K x qual params f.body f.sc dvs kws a fd
  sc : FnScope f.N f.ps f.sc
theorem good_cx {lv : Nat} {f : Fn} {a : Addr} {qual : Str} {cdv : Value} {A : Around} {outer : List PySem.Env} {s : Shared} {H : Hp} {E : XK} (nd : f.N.Nodup) (hr : Room lv (A.deeper (envOfC qual f.sc s.heap.objs.size a cdv))) :
    Good g (cxOf (CXg g) g.P g.w g.K g.mg g.base f.N qual f.sc a cdv A outer s H E) f.N f.sc (fun cls d _ H => E cls d H) lv where
  hP := rfl
  hw := rfl
  hK := rfl
  hmg := rfl
  hbase := rfl
  hN := rfl
  nd := nd
  hsc := ScR.refl _
  calm := rfl
  room := hr
  tk := takes_of rfl rfl rfl rfl
  pown := passes_of rfl
  cell := fun _ _ => rfl
theorem body_ok {lv : Nat} {cf : Cf} (T : TbOk g lv tb cf) {f : Fn} {a : Addr} {fd : FuncData} (D : DefOk g f a fd) : DOk g (lv + 1) f.ps.length (runBody tb cf wf fuel f) a fd f.ps := by
  obtain ⟨x, qual, params, dvs, kws, F⟩ := D.ex
  refine ⟨F.ok D.sc (fun vs H Q E ⟨ρ, h, args, r, t, hn, q⟩ => by rw [← t.length]; exact hn) fun cdv A outer s H vs Q E hr ⟨ρ, h, args, r, t, hn, q⟩ => ?_⟩
  have G := good_cx (g := g) (E := E) (outer := outer) (H := H) D.sc.nd hr
  refine ⟨_, self_ss _ _, topSs_ok (wf := wf) T (ev_ok (wf := wf) T fuel) f.sc f.body _ _ G rfl rfl ρ h H _ _ _ r t.start ?_⟩
  have q' : QR g (VR g) (fun cls d _ H' => E cls d H') ρ h H [] (runBody tb cf wf fuel f args h) Q := q
  unfold runBody at q'
  rw [if_pos hn] at q'
  cases z : topSs tb f.N wf (ev tb cf f.N wf fuel) f.sc f.body (args.map some ++ List.replicate (f.N.length - args.length) none) h with
  | nx env' h' =>
    rw [z] at q'
    exact fun ρ' H' σ' st r' er' => q' ρ' H' .non st r' VR.non
  | rt v h' =>
    rw [z] at q'
    exact fun ρ' H' x st r' t' => q' ρ' H' x st r' t'
  | bk e h' => rw [z] at q'; exact q'.elim
  | ct e h' => rw [z] at q'; exact q'.elim
  | ex e c fs h' =>
    rw [z] at q'
    exact fun ρ' H' σ' d xs st r' er' => q' ρ' H' d xs st r'
  | bad => rw [z] at q'; exact q'.elim
/-- what the head says -/
structure Hd (g : G) (tb : Tb) (fns : Nat → Option Fn) (ad : Nat → Addr) (fdt : Nat → FuncData) : Prop where
  dfn : ∀ i f, fns i = some f → DefOk g f (ad i) (fdt i)
  fi : ∀ i f, tb.fi i = some f → ∃ fn, fns i = some fn ∧ f.np = fn.ps.length ∧ ∀ m, DV g (fdt i) fn.ps (f.dv.drop m)
  fn : ∀ x i, tb.gn x = some (.fn i) → g.mg x = some (.ref (ad i)) ∧ PySem.W.keepIn g.K (.ref (ad i)) = true
  mke : ∀ c i, tb.ini c = some i → Mk g.K (g.C c) (ad i)
  cls : ∀ x c, tb.gn x = some (.cls c) → g.mg x = some (.ref (g.C c))
  con : ∀ x v, tb.gn x = some (.con v) → GCon g x v
  blt : ∀ x, tb.gn x = some .blt → g.mg x = none
  mth : ∀ c m i, tb.cm c m = some i → L2.Cls g.K (g.C c) ∧ Meth g.K (g.C c) m (ad i)
  oe : ∀ c i, tb.oe c = some i → PySem.W.findIn g.K (.ref (g.C c)) "__eq__" = some (some (.ref (ad i))) ∧ PySem.W.isFn g.K (.ref (ad i)) = true ∧ PySem.W.findIn g.K (.ref (g.C c)) "__ne__" = some (some (.builtin "object.__ne__")) ∧
    PySem.W.mroIn g.K (g.C c) (.type "object") = some true
  oen : ∀ c i, tb.oe c = some i → PySem.W.mroIn g.K (g.C c) (.type "str") = some false ∧ PySem.W.mroIn g.K (g.C c) (.type "tuple") = some false
  ob : ∀ op c i, tb.ob op c = some i → PySem.W.findIn g.K (.ref (g.C c)) (PySem.dunder op.info.2) = some (some (.ref (ad i))) ∧ PySem.W.isFn g.K (.ref (ad i)) = true ∧ PySem.W.selfFirst g.K (g.C c) = true ∧ InsTy g c
  na : ∀ c f, tb.na c f = true → L2.Cls g.K (g.C c) ∧ NoAttr g.K (g.C c) f
  tt : TtOk g tb.tt
  nf : NfOk g tb.nf
  pr : ∀ c m i, tb.pr c m = some i → L2.Cls g.K (g.C c) ∧ ∃ p, PropOf g.K (g.C c) m p (ad i)
  obt : ∀ op c, tb.obt op c = true → OBT g op c
  xn : ∀ x c fld, tb.xn x = some (c, fld) → g.mg x = some (.ref (g.C c)) ∧ XOk g c fld ∧ XR g c fld
  xm : XmOk g tb.xm
  xx : tb.hasX = true → XxOk g tb
  ct : ∀ c m i, tb.ct c m = some i → ∃ mc p, ClX.CRead g.K (g.C c) mc ∧ ClX.CMet g.K (g.C c) mc m p (ad i)
variable {ad : Nat → Addr} {fdt : Nat → FuncData}
theorem Hd.tbk (h : Hd g tb fns ad fdt) {k : Nat} {cf : Cf} (D : ∀ i f fn, tb.fi i = some f → fns i = some fn → DOk g k fn.ps.length (cf i) (ad i) (fdt i) fn.ps) (hk : 1 ≤ k) : TbOk g (k + 1) tb cf := by
  have F : ∀ i f, tb.fi i = some f → FOk g (k + 1) f (cf i) (ad i) := fun i f e => by
    obtain ⟨fn, e1, e2, e3⟩ := h.fi i f e
    exact ⟨k, fdt i, fn.ps, Nat.le_refl _, by rw [e2]; exact D i f fn e e1, e3⟩
  refine ⟨fun x i f e1 e2 => ?_, fun c i f e1 e2 => ?_, h.cls, h.con, h.blt, fun c m i f e1 e2 => ?_, fun c i f e1 e2 => ?_, h.oen, fun op c i f e1 e2 => ?_, h.na, h.tt, h.nf, fun c m i f e1 e2 => ?_, h.obt, h.xn, h.xm, by omega, h.xx, fun c m i f e1 e2 => ?_⟩
  · obtain ⟨a, b⟩ := h.fn x i e1
    exact ⟨ad i, a, b, F i f e2⟩
  · exact ⟨ad i, h.mke c i e1, F i f e2⟩
  · obtain ⟨a, b⟩ := h.mth c m i e1
    exact ⟨ad i, a, b, F i f e2⟩
  · obtain ⟨a, b, c', d⟩ := h.oe c i e1
    exact ⟨ad i, a, b, c', d, F i f e2⟩
  · obtain ⟨a, b, c', d⟩ := h.ob op c i e1
    exact ⟨ad i, a, b, c', d, F i f e2⟩
  · obtain ⟨a, p, b⟩ := h.pr c m i e1
    exact ⟨ad i, p, a, b, F i f e2⟩
  · obtain ⟨mc, p, a, b⟩ := h.ct c m i e1
    exact ⟨mc, p, ad i, a, b, F i f e2⟩
theorem Hd.call (h : Hd g tb fns ad fdt) : ∀ d i fn, fns i = some fn → DOk g (2 * d + 1) fn.ps.length (callF tb fns wf fuel d i) (ad i) (fdt i) fn.ps
  | 0, i, fn, e => ⟨⟨fun vs H Q E ⟨ρ, h', args, r, t, hn, q⟩ => q.elim, fun A outer s H args us vs Q E hr e0 b v ⟨ρ, h', args', r, t, hn, q⟩ => q.elim⟩⟩
  | d + 1, i, fn, e => by
    have T : TbOk g (2 * d + 1 + 1) tb (callF tb fns wf fuel d) := h.tbk (fun i f fn' e1 e2 => Hd.call h d i fn' e2) (by omega)
    have B := body_ok (wf := wf) (fuel := fuel) T (h.dfn i fn e)
    have ec : callF tb fns wf fuel (d + 1) i = runBody tb (callF tb fns wf fuel d) wf fuel fn := by
      funext args h'
      show (match fns i with | some f => runBody tb (callF tb fns wf fuel d) wf fuel f args h' | none => .bad) = _
      rw [e]
    rw [ec]
    exact B
end
end MP
end
section
set_option autoImplicit false
set_option linter.all false
namespace MP
open PySem L2 PySem.Spec PyProof.Rows
def oexB (K : PySem.W.Frag) (C : Addr) : Bool := (match K.lookup C with
  | some ⟨.type "type", _, .cls cd, ⟨[_, _, _, _, some (.builtin n), _]⟩⟩ => (match cd.mro with
    | .ref C' :: bm => decide (C' = C) && (decide (n = "ValueError.__new__") && (!cd.hasDel && (cd.hasDict && PySem.HandSPX.refsVE bm)))
    | _ => false)
  | _ => false) && (He.eqO (PySem.W.findIn K (.ref C) "__setattr__") (some (some (.builtin "object.__setattr__"))) && (decide (PySem.W.subIn K (.ref C) (.type "BaseException") = some true) && (decide (PySem.W.typeIn K (.ref C) = some (.type "type")) && PySem.W.keepIn K (.ref C))))
theorem oexB_ok {K : PySem.W.Frag} {C : Addr} (h : oexB K C = true) : OexC K C := by
  obtain ⟨h0, h⟩ := He.ba h
  obtain ⟨h1, h⟩ := He.ba h
  obtain ⟨h2, h⟩ := He.ba h
  obtain ⟨h3, h4⟩ := He.ba h
  refine ⟨?_, He.eqO_ok h1, of_decide_eq_true h2, of_decide_eq_true h3, h4⟩
  split at h0
  · rename_i dd cd a0 a1 a2 a3 n a5 lk
    split at h0
    · rename_i C' bm hm
      obtain ⟨q1, q⟩ := He.ba h0
      obtain ⟨q2, q⟩ := He.ba q
      obtain ⟨q3, q⟩ := He.ba q
      obtain ⟨q4, q5⟩ := He.ba q
      have e1 := of_decide_eq_true q1
      have e2 := of_decide_eq_true q2
      subst e1 e2
      obtain ⟨nm, bs, mro, ns, qn, hd, sn, sb, ab, col, del⟩ := cd
      dsimp only at hm q3 q4
      subst hm q4
      have : del = false := by simpa using q3
      subst this
      exact ⟨_, _, _, _, _, _, _, _, _, _, _, _, _, _, _, lk, q5⟩
    · cases h0
  · cases h0
/-- super().__init__(text); self.f = x -/
def supBody : List Stmt → Option (Str × Str × Str × Str)
  | [.Expr (.Call (.Attribute (.Call (.Name s _) [] [] _) m p2) [.Constant (.str z) _ _] [] p4) _, .Assign [.Attribute (.Name sf _) fld _] (.Name x _) _] => if s = "super" ∧ m = "__init__" ∧ (p2.endLine == p4.line) = true then some (sf, x, fld, z) else none
  | _ => none
theorem supBody_ok {b : List Stmt} {sf x fld z : Str} (h : supBody b = some (sf, x, fld, z)) : ∃ p0 p1 p2 k3 p3 p4 p5 q0 q1 q2 q3, b = [.Expr (.Call (.Attribute (.Call (.Name "super" p0) [] [] p1) "__init__" p2) [.Constant (.str z) k3 p3] [] p4) p5, .Assign [.Attribute (.Name sf q0) fld q1] (.Name x q2) q3] ∧ (p2.endLine == p4.line) = true := by
  unfold supBody at h
  split at h
  · split at h
    · rename_i hc
      obtain ⟨h1, h2, h3⟩ := hc
      subst h1 h2
      cases h
      exact ⟨_, _, _, _, _, _, _, _, _, _, _, rfl, h3⟩
    · cases h
  · cases h
/-- super().__init__(text) -/
def supBody0 : List Stmt → Option Str
  | [.Expr (.Call (.Attribute (.Call (.Name s _) [] [] _) m p2) [.Constant (.str z) _ _] [] p4) _] => if s = "super" ∧ m = "__init__" ∧ (p2.endLine == p4.line) = true then some z else none
  | _ => none
theorem supBody0_ok {b : List Stmt} {z : Str} (h : supBody0 b = some z) : ∃ p0 p1 p2 k3 p3 p4 p5, b = [.Expr (.Call (.Attribute (.Call (.Name "super" p0) [] [] p1) "__init__" p2) [.Constant (.str z) k3 p3] [] p4) p5] ∧ (p2.endLine == p4.line) = true := by
  unfold supBody0 at h
  split at h
  · split at h
    · rename_i hc
      obtain ⟨h1, h2, h3⟩ := hc
      subst h1 h2
      cases h
      exact ⟨_, _, _, _, _, _, _, rfl, h3⟩
    · cases h
  · cases h
structure XD where
  name : Str
  c : Nat
  at_ : Str × Option Str
  fname : Str
  qual : Str
  params : Arguments
  body : List Stmt
  scope : Scope
  sf : Str
  x : Str
  fld : Str
  z : Str
  zero : Bool := false
  kw : Bool := false
abbrev XV : Type := Option (Str × Str × Arguments × FuncBody × Scope × Addr × List Str × Value × Addr)
def XD.obs (K : PySem.W.Frag) (d : XD) : XV := match K.lookup (He.fAd K d.at_) with
  | some ⟨_, _, .func fd, _⟩ => some (fd.name, fd.qualname, fd.params, fd.body, fd.scope, fd.globals, fd.closure.map (·.1), fd.defaults, fd.builtins)
  | _ => none
def XD.val (d : XD) : XV := some (d.fname, d.qual, d.params, .stmts d.body, d.scope, mainGlobals, [("__class__" : Str)], .none, builtinsNs)
def XD.fdt (K : PySem.W.Frag) (d : XD) : FuncData := match K.lookup (He.fAd K d.at_) with
  | some ⟨_, _, .func fd, _⟩ => fd
  | _ => default
def codB (K : PySem.W.Frag) (file : Str) (fd : FuncData) : Bool := match fd.code with
  | .ref cda => PySem.W.codeIn K (.ref cda) fd.qualname && (match K.lookup cda with
    | some ⟨_, _, .fields vs, _⟩ => (match (vs[2]? : Option Value) with
      | some (.str f _) => decide (f = file)
      | _ => false)
    | _ => false)
  | _ => false
def cloB (K : PySem.W.Frag) (C : Addr) (fd : FuncData) : Bool := match fd.closure with
  | [(_, cc)] => (match K.lookup cc with
    | some ⟨_, _, .cell (some (.ref D)), _⟩ => decide (D = C)
    | _ => false)
  | _ => false
def XD.ok (K : PySem.W.Frag) (file : Str) (C : Addr) (d : XD) : Bool :=
  oexB K C && ((match PySem.W.clsIn K C with
    | some c => He.eqO (PySem.W.alongIn K "__init__" ((c.mro.dropWhile (· != .ref C)).drop 1)) (some (some (.builtin "ValueError.__init__")))
    | none => false) && (decide (PySem.W.mroIn K C (.ref C) = some true) && (decide (PySem.W.subIn K (.ref C) (.type "ValueError") = some true) && (He.eqO (PySem.W.nsIn K cStatics "thirdparty.any") (some none) &&
  (codB K file (d.fdt K) && (cloB K C (d.fdt K) && (He.eqO (PySem.W.nsIn K mainGlobals "super") (some none) && (He.eqO (PySem.W.findIn K (.ref C) d.fld) (some none) && (He.eqO (PySem.W.nsIn K mainGlobals d.name) (some (some (.ref C))) &&
  (He.eqO (PySem.W.findIn K (.ref C) "__init__") (some (some (.ref (He.fAd K d.at_)))) && decide (PySem.W.typeIn K (.ref (He.fAd K d.at_)) = some (.type "function"))))))))))))
def XD.bodyB (d : XD) : Bool := match d.zero with
  | true => decide (supBody0 d.body = some d.z)
  | false => decide (supBody d.body = some (d.sf, d.x, d.fld, d.z))
/-- of the text alone -/
def XD.txt (d : XD) : Bool := d.bodyB && (decide (d.z.length ≤ lim) && (decide (d.scope.names.lookup ("super" : Str) = some .globalImplicit) && (decide (d.scope.names.lookup ("__class__" : Str) = some .free) && (decide (d.scope.names.lookup d.sf = some .local) && ((d.zero || decide (d.scope.names.lookup d.x = some .local)) &&
  (decide (d.scope.kind = .function) && (d.scope.isCoroutine == false && (d.scope.isGenerator == false && (d.scope.names.all (fun y => decide (y.2 ≠ .cell)) && (decide (d.x ≠ d.sf) && (!(d.x == ("__debug__" : Str)) && (!(d.sf == ("__debug__" : Str)) && (match (d.params.posonlyargs ++ d.params.args).head? with
    | some ar => decide (ar.arg = d.sf)
    | none => false)))))))))))))
def XD.B1 (d : XD) : Prop := ∀ (clo : List (Str × Addr)) (kV doc pm : Value) (an : Option Addr) (cdv ct : Value) (us : List Value), us.length = 2 → bindArgs ⟨d.fname, d.qual, d.params, .stmts d.body, d.scope, mainGlobals, clo, .none, kV, doc, pm, an, cdv, ct, builtinsNs⟩ ⟨us, []⟩ = pure ([d.sf, d.x].zip us)
def XD.B0 (d : XD) : Prop := ∀ (clo : List (Str × Addr)) (kV doc pm : Value) (an : Option Addr) (cdv ct : Value) (us : List Value), us.length = 1 → bindArgs ⟨d.fname, d.qual, d.params, .stmts d.body, d.scope, mainGlobals, clo, .none, kV, doc, pm, an, cdv, ct, builtinsNs⟩ ⟨us, []⟩ = pure ([d.sf].zip us)
def XD.BK (d : XD) : Prop := ∀ (clo : List (Str × Addr)) (kV doc pm : Value) (an : Option Addr) (cdv ct : Value) (u v : Value), bindArgs ⟨d.fname, d.qual, d.params, .stmts d.body, d.scope, mainGlobals, clo, .none, kV, doc, pm, an, cdv, ct, builtinsNs⟩ ⟨[u], [(d.x, v)]⟩ = pure ([d.sf, d.x].zip [u, v])
def XD.Bnd (d : XD) : Prop := match d.zero, d.kw with
  | false, false => d.B1
  | false, true => d.B1 ∧ d.BK
  | true, _ => d.B0
theorem XD.Bnd.one {d : XD} (h : d.Bnd) (z : d.zero = false) : d.B1 := by
  unfold XD.Bnd at h
  rw [z] at h
  cases k : d.kw with
  | false => rw [k] at h; exact h
  | true => rw [k] at h; exact h.1
theorem XD.Bnd.key {d : XD} (h : d.Bnd) (z : d.zero = false) (k : d.kw = true) : d.BK := by
  unfold XD.Bnd at h
  rw [z, k] at h
  exact h.2
theorem XD.Bnd.nul {d : XD} (h : d.Bnd) (z : d.zero = true) : d.B0 := by
  unfold XD.Bnd at h
  rw [z] at h
  exact h
theorem XD.xok {P : Program} {w : World} {K : PySem.W.Frag} {mg : Str → Option Value} {base h : PySem.Heap} {Cf : Nat → Addr} {d : XD} {file : Str} (X : K.In h) (G : h.Ns mainGlobals mg) (hk : d.ok K file (Cf d.c) = true) (he : d.obs K = d.val) (ht : d.txt = true) (hb : d.Bnd) (hfile : P.main.file = file)
    (htop : (P.main.scope.names.lookup ("super" : Str)).isSome = false) : mg d.name = some (.ref (Cf d.c)) ∧ ((d.zero = false → XOk ⟨P, w, K, mg, base, Cf⟩ d.c d.fld) ∧ (d.zero = true → XOk0 ⟨P, w, K, mg, base, Cf⟩ d.c) ∧ (d.zero = false → d.kw = true → XOkK ⟨P, w, K, mg, base, Cf⟩ d.c d.fld d.x)) := by
  obtain ⟨k1, hk⟩ := He.ba hk
  obtain ⟨k2, hk⟩ := He.ba hk
  obtain ⟨k3, hk⟩ := He.ba hk
  obtain ⟨k4, hk⟩ := He.ba hk
  obtain ⟨k5, hk⟩ := He.ba hk
  obtain ⟨k6, hk⟩ := He.ba hk
  obtain ⟨k7, hk⟩ := He.ba hk
  obtain ⟨k8, hk⟩ := He.ba hk
  obtain ⟨k9, hk⟩ := He.ba hk
  obtain ⟨k10, hk⟩ := He.ba hk
  obtain ⟨k11, k12⟩ := He.ba hk
  obtain ⟨t1, ht⟩ := He.ba ht
  obtain ⟨t2, ht⟩ := He.ba ht
  obtain ⟨t3, ht⟩ := He.ba ht
  obtain ⟨t4, ht⟩ := He.ba ht
  obtain ⟨t5, ht⟩ := He.ba ht
  obtain ⟨t6, ht⟩ := He.ba ht
  obtain ⟨t7, ht⟩ := He.ba ht
  obtain ⟨t8, ht⟩ := He.ba ht
  obtain ⟨t9, ht⟩ := He.ba ht
  obtain ⟨t10, ht⟩ := He.ba ht
  obtain ⟨t11, ht⟩ := He.ba ht
  obtain ⟨t12, ht⟩ := He.ba ht
  obtain ⟨t13, t14⟩ := He.ba ht
  refine ⟨PySem.W.mg_of X G (He.eqO_ok k10), ?_⟩
  unfold XD.obs at he
  split at he
  · rename_i oc od fd osl lk
    have efd : d.fdt K = fd := by unfold XD.fdt; rw [lk]
    rw [efd] at k6 k7
    obtain ⟨n1, n2, n3, n4, n5, n6, n7, n8, n9, n10, n11, n12, n13, n14, n15⟩ := fd
    have e2 : (some (n1, n2, n3, n4, n5, n6, n7.map (·.1), n8, n15) : XV) = some (d.fname, d.qual, d.params, .stmts d.body, d.scope, mainGlobals, [("__class__" : Str)], .none, builtinsNs) := he
    simp only [Option.some.injEq, Prod.mk.injEq] at e2
    obtain ⟨h1, h2, h3, h4, h5, h6, h7, h8, h9⟩ := e2
    subst h1 h2 h3 h4 h5 h6 h8 h9
    have XIh : XI P K mg (Cf d.c) (He.fAd K d.at_) ⟨d.fname, d.qual, d.params, .stmts d.body, d.scope, mainGlobals, n7, .none, n9, n10, n11, n12, n13, n14, builtinsNs⟩ d.sf d.body := {
      T := oexB_ok k1
      cd := by
        split at k2
        · rename_i c hc
          exact ⟨c, hc, He.eqO_ok k2⟩
        · cases k2
      sub := of_decide_eq_true k3
      sve := of_decide_eq_true k4
      opq := He.eqO_ok k5
      fn := ⟨_, _, _, lk⟩
      cod := by
        unfold codB at k6
        dsimp only at k6
        split at k6
        · rename_i cda
          obtain ⟨c1, c2⟩ := He.ba k6
          split at c2
          · rename_i ccl cdd vs ccs lkc
            split at c2
            · rename_i f tf hv
              exact ⟨cda, _, _, vs, _, f, tf, rfl, c1, lkc, hv, by rw [hfile, of_decide_eq_true c2]; exact beq_self_eq_true _⟩
            · cases c2
          · cases c2
        · cases k6
      clo := by
        unfold cloB at k7
        dsimp only at k7
        split at k7
        · rename_i nn cc
          split at k7
          · rename_i cl cld Dd csl lkc
            have := of_decide_eq_true k7
            subst this
            refine ⟨cc, _, _, _, ?_, lkc⟩
            have : nn = ("__class__" : Str) := by simpa using h7
            rw [this]
          · cases k7
        · cases k7
      glo := rfl
      blt := rfl
      bod := rfl
      par := by
        split at t14
        · rename_i ar hp
          exact ⟨ar, hp, of_decide_eq_true t14⟩
        · cases t14
      sup := PySem.W.mg_none_of X G (He.eqO_ok k8)
      top := htop
      ks := of_decide_eq_true t3
      kc := of_decide_eq_true t4
      ka := of_decide_eq_true t5
      kd := of_decide_eq_true t7
      co := eq_of_beq t8
      ge := eq_of_beq t9
      nc := fun y hy => of_decide_eq_true (List.all_eq_true.mp t10 y hy) }
    have one : d.zero = false → FnOk P w K mg base (CXg ⟨P, w, K, mg, base, Cf⟩) 1 (He.fAd K d.at_) ⟨d.fname, d.qual, d.params, .stmts d.body, d.scope, mainGlobals, n7, .none, n9, n10, n11, n12, n13, n14, builtinsNs⟩ [d.sf, d.x] (spX1 (Cf d.c) d.fld) := fun z => by
      unfold XD.bodyB at t1
      rw [z] at t1 t6
      obtain ⟨p0, p1, p2, k3', p3, p4, p5, q0, q1, q2, q3, eb, hl4⟩ := supBody_ok (of_decide_eq_true t1)
      exact fn_sup1 (by rw [← eb]; exact XIh) hl4 (lim_le (of_decide_eq_true t2)) (of_decide_eq_true (by simpa using t6)) (of_decide_eq_true t11) (by simpa using t12) (by simpa using t13) (He.eqO_ok k9)
    refine ⟨fun z => ?_, fun z => ?_, fun z k => ?_⟩
    · refine ⟨oexB_ok k1, He.fAd K d.at_, ⟨d.fname, d.qual, d.params, .stmts d.body, d.scope, mainGlobals, n7, .none, n9, n10, n11, n12, n13, n14, builtinsNs⟩, d.sf, d.x, He.eqO_ok k11, of_decide_eq_true k12, one z, ?_⟩
      exact .all (hb.one z n7 n9 n10 n11 n12 n13 n14)
    · refine ⟨oexB_ok k1, He.fAd K d.at_, ⟨d.fname, d.qual, d.params, .stmts d.body, d.scope, mainGlobals, n7, .none, n9, n10, n11, n12, n13, n14, builtinsNs⟩, d.sf, He.eqO_ok k11, of_decide_eq_true k12, ?_, ?_⟩
      · unfold XD.bodyB at t1
        rw [z] at t1
        obtain ⟨p0, p1, p2, k3', p3, p4, p5, eb, hl4⟩ := supBody0_ok (of_decide_eq_true t1)
        exact fn_sup0 (by rw [← eb]; exact XIh) hl4 (lim_le (of_decide_eq_true t2))
      · exact .all (hb.nul z n7 n9 n10 n11 n12 n13 n14)
    · refine ⟨oexB_ok k1, He.fAd K d.at_, ⟨d.fname, d.qual, d.params, .stmts d.body, d.scope, mainGlobals, n7, .none, n9, n10, n11, n12, n13, n14, builtinsNs⟩, d.sf, d.x, He.eqO_ok k11, of_decide_eq_true k12, one z, ?_⟩
      exact fun s u v _ => .of_eq (hb.key z k n7 n9 n10 n11 n12 n13 n14 u v)
  · cases he
end MP
end
section
set_option autoImplicit false
set_option linter.all false
namespace MP
open PySem L2 PySem.Spec PyProof.Rows
/-- a default as the text has it -/
inductive Dfl where
  | non | bl (b : Bool) | int (i : Int) | str (x : Str) | ety
def Dfl.val : Dfl → Val
  | .non => .non
  | .bl b => .bl b
  | .int i => .int i
  | .str x => .str x
  | .ety => .tup []
def Dfl.dv (p : Str × Option Str) (i : Nat) : Dfl → He.Dv
  | .non => .non
  | .bl b => .bl b
  | .int i => .int i
  | .str x => .str x
  | .ety => .adr (He.dflAt p i)
def dvsOf (p : Str × Option Str) : Nat → List Dfl → List He.Dv
  | _, [] => []
  | i, d :: r => d.dv p i :: dvsOf p (i + 1) r
structure FD where
  at_ : Str × Option Str
  name : Str
  qual : Str
  params : Arguments
  body : List Stmt
  scope : Scope
  ps : List Str
  N : List Str
  dfl : List Dfl := []
  prop : Bool := false
  cmt : Bool := false
/-- a property's getter -/
def pAd (K : PySem.W.Frag) (p : Str × Option Str) : Addr := match PySem.W.recIn K (He.fAd K p) "property" with
  | some (.ref g :: _) => g
  | _ => 0
/-- a class method's def -/
def cmAd (K : PySem.W.Frag) (p : Str × Option Str) : Addr := match PySem.W.recIn K (He.fAd K p) "classmethod" with
  | some (.ref g :: _) => g
  | _ => 0
def FD.ad (K : PySem.W.Frag) (f : FD) : Addr := if f.prop then pAd K f.at_ else if f.cmt then cmAd K f.at_ else He.fAd K f.at_
def fnAt (K : PySem.W.Frag) (a : Addr) : He.FnW := match K.lookup a with
  | some ⟨_, _, .func fd, _⟩ => some (fd.name, fd.qualname, fd.params, fd.body, fd.scope, fd.globals, fd.closure, fd.builtins)
  | _ => none
def okAt (K : PySem.W.Frag) (a : Addr) (d : He.DefD) : Bool := PySem.W.keepIn K (.ref a) && (match K.lookup a with
  | some ⟨_, _, .func fd, _⟩ => PySem.W.codeIn K fd.code d.qual && (He.dflB K fd.defaults (d.dvs K) && He.kwdB K fd.kwdefaults (d.kws K))
  | _ => false)
theorem funAt {K : PySem.W.Frag} {a : Addr} {d : He.DefD} (e : fnAt K a = d.val) (c : okAt K a d = true) : ∃ fd, FunD K d.name d.qual d.params d.body d.scope (d.dvs K) (d.kws K) a fd := by
  obtain ⟨kp, c2⟩ := He.ba c
  unfold fnAt at e
  cases q : K.lookup a with
  | none => rw [q] at c2; cases c2
  | some o =>
    obtain ⟨oc, od, dt, osl⟩ := o
    rw [q] at c2 e
    cases dt with
    | func fd =>
      obtain ⟨n1, n2, n3, n4, n5, n6, n7, n8, n9, n10, n11, n12, n13, n14, n15⟩ := fd
      have e2 : (some (n1, n2, n3, n4, n5, n6, n7, n15) : He.FnW) = some (d.name, d.qual, d.params, .stmts d.body, d.scope, mainGlobals, [], builtinsNs) := e
      simp only [Option.some.injEq, Prod.mk.injEq] at e2
      obtain ⟨h1, h2, h3, h4, h5, h6, h7, h8⟩ := e2
      subst h1 h2 h3 h4 h5 h6 h7 h8
      have c3 : (PySem.W.codeIn K n13 d.qual && (He.dflB K n8 (d.dvs K) && He.kwdB K n9 (d.kws K))) = true := c2
      obtain ⟨k1, k2⟩ := He.ba c3
      obtain ⟨k3, k4⟩ := He.ba k2
      exact ⟨_, ⟨oc, od, n8, n9, n10, n11, n12, n13, n14, osl, rfl, q, k1, He.dflB_ok k3, He.kwdB_ok k4⟩, kp⟩
    | _ => cases c2
def FD.d (f : FD) : He.DefD := ⟨f.at_, f.name, f.qual, f.params, f.body, f.scope, dvsOf f.at_ 0 f.dfl, []⟩
def FD.fn (f : FD) : Fn := ⟨f.ps, f.N, f.scope, f.body⟩
def FD.fi (f : FD) : FI := ⟨f.ps.length, f.dfl.map Dfl.val⟩
def etyB (K : PySem.W.Frag) (a : Addr) : Bool := match K.lookup a with
  | some ⟨.type c, none, .seq its _, _⟩ => decide (c = "tuple") && decide (its = #[])
  | _ => false
def dflOk (K : PySem.W.Frag) (p : Str × Option Str) : Nat → List Dfl → Bool
  | _, [] => true
  | i, d :: r => (match d with
    | .ety => etyB K (He.dflAt p i K)
    | .str x => decide (x.length ≤ lim)
    | _ => true) && dflOk K p (i + 1) r
structure Dt where
  fns : List FD
  cls : List Str
  gns : List (Str × GN)
  inis : List (Nat × Nat)
  cms : List ((Nat × Str) × Nat)
  oes : List (Nat × Nat)
  obs : List ((Operator × Nat) × Nat)
  nas : List (Nat × Str)
  tts : List ((Ty × Ty) × Bool)
  nfs : List (Nat × Ty)
  prs : List ((Nat × Str) × Nat)
  obts : List (Operator × Nat)
  xds : List XD
  xms : List ((Nat × Nat) × Bool)
  cts : List ((Nat × Str) × Nat) := []
  file : Str
  hasX : Bool := false
  txs : List ((Nat × Ty) × Bool) := []
  xfs : List (Nat × Str) := []
  xts : List (Str × Nat) := []
def look {α β : Type} [DecidableEq α] (l : List (α × β)) (a : α) : Option β := (l.find? fun p => decide (p.1 = a)).map (·.2)
theorem look_mem {α β : Type} [DecidableEq α] {l : List (α × β)} {a : α} {b : β} (h : look l a = some b) : (a, b) ∈ l := by
  obtain ⟨p, e1, e2⟩ := Option.map_eq_some_iff.mp h
  have h1 := List.mem_of_find?_eq_some e1
  have h2 := List.find?_some e1
  obtain ⟨a', b'⟩ := p
  cases of_decide_eq_true h2
  cases e2
  exact h1
def Dt.tb (D : Dt) : Tb where
  gn := look D.gns
  fi := fun i => D.fns[i]?.map FD.fi
  ini := look D.inis
  cm := fun c m => look D.cms (c, m)
  oe := look D.oes
  ob := fun op c => look D.obs (op, c)
  na := fun c f => decide ((c, f) ∈ D.nas)
  tt := fun t u => look D.tts (t, u)
  nf := fun c t => decide ((c, t) ∈ D.nfs)
  pr := fun c m => look D.prs (c, m)
  obt := fun op c => decide ((op, c) ∈ D.obts)
  xn := fun x => (D.xds.find? fun d => decide (d.name = x) && !d.zero).map fun d => (d.c, d.fld)
  xm := fun a b => look D.xms (a, b)
  ct := fun c m => look D.cts (c, m)
  hasX := D.hasX
  tx := fun c t => look D.txs (c, t)
  xf := fun c f => decide ((c, f) ∈ D.xfs)
  xk := fun x => (D.xds.find? fun d => decide (d.name = x) && (!d.zero && d.kw)).map fun d => (d.c, d.fld, d.x)
  x0 := fun x => (D.xds.find? fun d => decide (d.name = x) && d.zero).map fun d => d.c
  xt := fun x => look D.xts x
def Dt.fn (D : Dt) (i : Nat) : Option Fn := D.fns[i]?.map FD.fn
/-- where a function, a class stands -/
def Dt.ad (D : Dt) (K : PySem.W.Frag) (i : Nat) : Addr := match D.fns[i]? with
  | some f => f.ad K
  | none => 0
def Dt.cad (D : Dt) (K : PySem.W.Frag) (c : Nat) : Addr := match D.cls[c]? with
  | some x => He.ga K x
  | none => 0
def Dt.fdt (D : Dt) (K : PySem.W.Frag) (i : Nat) : FuncData := match K.lookup (D.ad K i) with
  | some ⟨_, _, .func fd, _⟩ => fd
  | _ => default
def clsB (K : PySem.W.Frag) (C : Addr) : Bool := PySem.W.plainGet K C Str.empty && (PySem.W.hasDictIn K C && (PySem.W.plainOver K C && He.eqO (PySem.W.findIn K (.ref C) "__setattr__") (some (some (.builtin "object.__setattr__")))))
theorem clsB_ok {K : PySem.W.Frag} {C : Addr} (h : clsB K C = true) : L2.Cls K C := by
  obtain ⟨c1, c⟩ := He.ba h
  obtain ⟨c2, c⟩ := He.ba c
  obtain ⟨c3, c4⟩ := He.ba c
  exact ⟨c1, c2, c3, He.eqO_ok c4⟩
def insB (K : PySem.W.Frag) (C : Addr) : Bool := clsB K C && (He.eqO (PySem.W.findIn K (.ref C) "__class__") (some (some (.builtin "object.__class__"))) && (He.eqO (PySem.W.specialIn K (.builtin "object.__class__") "__get__") (some (some (.builtin "getset_descriptor.__get__"))) &&
  (decide (PySem.W.takesIn K (.builtin "object.__class__") = some true) && decide (PySem.W.mroIn K C (.type "object") = some true))))
def tyA (D : Dt) (K : PySem.W.Frag) : Ty → Value
  | .b n => .type n
  | .c k => .ref (D.cad K k)
def conB (K : PySem.W.Frag) (x : Str) : Val → Bool
  | .int i => (match PySem.W.nsIn K mainGlobals x with
    | some (some (.int j _)) => decide (j = i)
    | _ => false)
  | .str z => decide (z.length ≤ lim) && (match PySem.W.nsIn K mainGlobals x with
    | some (some (.str y _)) => decide (y = z)
    | _ => false)
  | .bl b => (match PySem.W.nsIn K mainGlobals x with
    | some (some (.bool c)) => decide (c = b)
    | _ => false)
  | .tup vs => (match strsV vs with
    | some zs => He.eqO (PySem.W.nsIn K mainGlobals x) (some (some (.ref (He.ga K x)))) && (He.tupB K x (zs.map He.Dv.str) && (!zs.isEmpty && zs.all fun z => decide (z.length ≤ lim)))
    | none => false)
  | _ => false
theorem vrs_strs {g : G} {ρ : Nat → Addr} {n : Nat} {H : Hp} : ∀ {vs : List Val} {zs : List Str}, strsV vs = some zs → (∀ z ∈ zs, z.length ≤ sizeLine) → VRs g ρ n H vs (zs.map L2.V.str)
  | [], zs, e, _ => by cases e; show VRs g ρ n H [] []; rw [VRs]
  | v :: vs, zs, e, hl => by
    cases v with
    | str x =>
      simp only [strsV, Option.map_eq_some_iff] at e
      obtain ⟨z, e1, rfl⟩ := e
      rw [List.map_cons, VRs]
      exact ⟨_, _, rfl, VR.str (hl x List.mem_cons_self), vrs_strs e1 fun y hy => hl y (List.mem_cons_of_mem _ hy)⟩
    | _ => cases e
def Dt.okG (D : Dt) (K : PySem.W.Frag) (p : Str × GN) : Bool := match p.2 with
  | .fn i => He.eqO (PySem.W.nsIn K mainGlobals p.1) (some (some (.ref (D.ad K i)))) && decide (i < D.fns.length)
  | .cls c => He.eqO (PySem.W.nsIn K mainGlobals p.1) (some (some (.ref (D.cad K c))))
  | .blt => He.eqO (PySem.W.nsIn K mainGlobals p.1) (some none)
  | .con v => conB K p.1 v
def Dt.okM (D : Dt) (K : PySem.W.Frag) (C : Addr) (m : Str) (i : Nat) : Bool := He.eqO (PySem.W.findIn K (.ref C) m) (some (some (.ref (D.ad K i)))) && PySem.W.isFn K (.ref (D.ad K i))
def prB (K : PySem.W.Frag) (C : Addr) (m : Str) (a : Addr) : Bool := clsB K C && (match PySem.W.findIn K (.ref C) m with
  | some (some (.ref p)) => He.eqO (PySem.W.specialIn K (.ref p) "__get__") (some (some (.builtin "property.__get__"))) && (decide (PySem.W.takesIn K (.ref p) = some true) && (match PySem.W.recIn K p "property" with
    | some (.ref g :: _) => decide (g = a)
    | _ => false))
  | _ => false)
theorem prB_ok {K : PySem.W.Frag} {C a : Addr} {m : Str} (h : prB K C m a = true) : L2.Cls K C ∧ ∃ p, PropOf K C m p a := by
  obtain ⟨h1, h2⟩ := He.ba h
  refine ⟨clsB_ok h1, ?_⟩
  split at h2
  · rename_i p hp
    obtain ⟨a1, h2⟩ := He.ba h2
    obtain ⟨a2, a3⟩ := He.ba h2
    split at a3
    · rename_i g rest hr
      have := of_decide_eq_true a3
      subst this
      exact ⟨p, hp, He.eqO_ok a1, of_decide_eq_true a2, rest, hr⟩
    · cases a3
  · cases h2
def obtB (K : PySem.W.Frag) (C : Addr) (op : Operator) : Bool := He.eqO (PySem.W.findIn K (.ref C) (dunderR op.info.2)) (some none) && ((PySem.W.findIn K (.type "int") (PySem.dunder op.info.2)).isSome && ((PySem.W.findIn K (.type "int") (dunderR op.info.2)).isSome && decide (PySem.W.subIn K (.type "int") (.ref C) = some false)))
def xrB (K : PySem.W.Frag) (C : Addr) (fld : Str) : Bool := He.eqO (PySem.W.findIn K (.ref C) "__getattribute__") (some (some (.builtin "BaseException.__getattribute__"))) && ((PySem.W.findIn K (.ref C) "__getattr__").isSome && (decide (PySem.W.subIn K (.ref C) (.type "BaseException") = some true) && (PySem.W.hasDictIn K C && He.eqO (PySem.W.findIn K (.ref C) fld) (some none))))
theorem xrB_ok {g : G} {c : Nat} {fld : Str} (h : xrB g.K (g.C c) fld = true) : XR g c fld := by
  obtain ⟨h1, h⟩ := He.ba h
  obtain ⟨h2, h⟩ := He.ba h
  obtain ⟨h3, h⟩ := He.ba h
  obtain ⟨h4, h5⟩ := He.ba h
  exact ⟨He.eqO_ok h1, Option.isSome_iff_exists.mp h2, of_decide_eq_true h3, h4, He.eqO_ok h5⟩
theorem obtB_ok {g : G} {c : Nat} {op : Operator} (h : obtB g.K (g.C c) op = true) : OBT g op c := by
  obtain ⟨h1, h⟩ := He.ba h
  obtain ⟨h2, h⟩ := He.ba h
  obtain ⟨h3, h4⟩ := He.ba h
  exact ⟨He.eqO_ok h1, Option.isSome_iff_exists.mp h2, Option.isSome_iff_exists.mp h3, of_decide_eq_true h4⟩
def ctB (K : PySem.W.Frag) (C : Addr) (m : Str) (a : Addr) : Bool := PySem.W.readsIn K C (.type "type") && (He.eqO (PySem.W.specialIn K (.ref C) "__getattribute__") (some (some (.builtin "type.__getattribute__"))) && ((match PySem.W.findCls K (.ref C) (.type "type") m with
  | some (.get (.builtin b) (.ref p) .none (.ref C')) => decide (b = "classmethod.__get__") && (decide (C' = C) && (match PySem.W.recIn K p "classmethod" with
    | some (.ref g :: _) => decide (g = a)
    | _ => false))
  | _ => false) && PySem.W.fnIn K a))
theorem ctB_ok {K : PySem.W.Frag} {C a : Addr} {m : Str} (h : ctB K C m a = true) : ∃ mc p, ClX.CRead K C mc ∧ ClX.CMet K C mc m p a := by
  obtain ⟨h1, h⟩ := He.ba h
  obtain ⟨h2, h⟩ := He.ba h
  obtain ⟨h3, h4⟩ := He.ba h
  split at h3
  · rename_i b p C' e
    obtain ⟨q1, q⟩ := He.ba h3
    obtain ⟨q2, q3⟩ := He.ba q
    have q1 := of_decide_eq_true q1
    have q2 := of_decide_eq_true q2
    subst q1 q2
    split at q3
    · rename_i g rest er
      have := of_decide_eq_true q3
      subst this
      exact ⟨.type "type", p, ⟨h1, He.eqO_ok h2⟩, ⟨e, ⟨rest, er⟩, h4⟩⟩
    · cases q3
  · cases h3
def xisB (K : PySem.W.Frag) (C : Addr) : Bool := (PySem.W.clsIn K C).isSome && (He.eqO (PySem.W.findIn K (.ref C) "__getattribute__") (some (some (.builtin "BaseException.__getattribute__"))) && (He.eqO (PySem.W.findIn K (.ref C) "__getattr__") (some none) && (decide (PySem.W.subIn K (.ref C) (.type "BaseException") = some true) &&
  (He.eqO (PySem.W.findIn K (.ref C) "__class__") (some (some (.builtin "object.__class__"))) && (He.eqO (PySem.W.specialIn K (.builtin "object.__class__") "__get__") (some (some (.builtin "getset_descriptor.__get__"))) && (decide (PySem.W.takesIn K (.builtin "object.__class__") = some true) && decide (PySem.W.mroIn K C (.type "object") = some true)))))))
theorem xisB_ok {K : PySem.W.Frag} {C : Addr} (h : xisB K C = true) : XIs K C := by
  obtain ⟨h1, h⟩ := He.ba h
  obtain ⟨h2, h⟩ := He.ba h
  obtain ⟨h3, h⟩ := He.ba h
  obtain ⟨h4, h⟩ := He.ba h
  obtain ⟨h5, h⟩ := He.ba h
  obtain ⟨h6, h⟩ := He.ba h
  obtain ⟨h7, h8⟩ := He.ba h
  exact ⟨h1, He.eqO_ok h2, He.eqO_ok h3, of_decide_eq_true h4, He.eqO_ok h5, He.eqO_ok h6, of_decide_eq_true h7, of_decide_eq_true h8⟩
def Dt.ok3 (D : Dt) (K : PySem.W.Frag) : Bool :=
  (D.txs.all fun p => xisB K (D.cad K p.1.1) && decide (PySem.W.kitOne K (.ref (D.cad K p.1.1)) (tyA D K p.1.2) = some p.2)) && ((D.xfs.all fun p => xfB K (D.cad K p.1) && He.eqO (PySem.W.findIn K (.ref (D.cad K p.1)) p.2) (some none)) &&
  (D.xts.all fun p => He.eqO (PySem.W.nsIn K mainGlobals p.1) (some (some (.ref (D.cad K p.2)))) && (PySem.W.excIn K (D.cad K p.2) [.type "ValueError", .type "Exception", .type "BaseException", .type "object"] "ValueError.__new__" && PySem.W.keepIn K (.ref (D.cad K p.2)))))
def Dt.ok2 (D : Dt) (K : PySem.W.Frag) : Bool := (!D.hasX || D.ok3 K) && (
  (D.prs.all fun p => prB K (D.cad K p.1.1) p.1.2 (D.ad K p.2)) && ((D.obts.all fun p => obtB K (D.cad K p.2) p.1) && ((D.xds.all fun d => d.ok K D.file (D.cad K d.c) && (d.zero || xrB K (D.cad K d.c) d.fld)) && ((D.xms.all fun p => decide (PySem.W.exmOne K (.ref (D.cad K p.1.1)) (.ref (D.cad K p.1.2)) = some p.2)) && (D.cts.all fun p => ctB K (D.cad K p.1.1) p.1.2 (D.ad K p.2))))))
def Dt.ok (D : Dt) (K : PySem.W.Frag) : Bool :=
  D.gns.all (D.okG K) && (D.fns.all (fun f => dflOk K f.at_ 0 f.dfl)) &&
  (D.inis.all fun p => PySem.W.makesIn K (D.cad K p.1) && (D.okM K (D.cad K p.1) "__init__" p.2 && PySem.W.keepIn K (.ref (D.cad K p.1)))) &&
  (D.cms.all fun p => clsB K (D.cad K p.1.1) && (D.okM K (D.cad K p.1.1) p.1.2 p.2 && PySem.W.keepIn K (.ref (D.ad K p.2)))) &&
  (D.oes.all fun p => D.okM K (D.cad K p.1) "__eq__" p.2 && (He.eqO (PySem.W.findIn K (.ref (D.cad K p.1)) "__ne__") (some (some (.builtin "object.__ne__"))) && (decide (PySem.W.mroIn K (D.cad K p.1) (.type "object") = some true) && (decide (PySem.W.mroIn K (D.cad K p.1) (.type "str") = some false) && decide (PySem.W.mroIn K (D.cad K p.1) (.type "tuple") = some false))))) &&
  (D.obs.all fun p => D.okM K (D.cad K p.1.2) (PySem.dunder p.1.1.info.2) p.2 && (PySem.W.selfFirst K (D.cad K p.1.2) && insB K (D.cad K p.1.2))) &&
  (D.nas.all fun p => clsB K (D.cad K p.1) && He.eqO (PySem.W.findIn K (.ref (D.cad K p.1)) p.2) (some none)) &&
  (D.tts.all fun p => (match p.1.1 with | .c k => insB K (D.cad K k) | _ => true) && decide (PySem.W.kitOne K (tyA D K p.1.1) (tyA D K p.1.2) = some p.2)) &&
  (D.nfs.all fun p => (match p.2 with | .c k => insB K (D.cad K k) | _ => true) && PySem.W.notFirst K (D.cad K p.1) (tyA D K p.2))
/-- a def's scope, its slots -/
def FD.scB (f : FD) : Bool := decide (f.scope.kind = .function) && (f.scope.isCoroutine == false && (f.scope.isGenerator == false && (decide f.N.Nodup && (decide (f.N.take f.ps.length = f.ps) && ((f.ps.all fun x => decide (f.scope.names.lookup x = some .local) || decide (f.scope.names.lookup x = some .cell)) && f.scope.names.all fun y => decide (y.2 ≠ .free))))))
theorem FD.scB_ok {f : FD} (h : f.scB = true) : FnScope f.N f.ps f.scope := by
  obtain ⟨h1, h⟩ := He.ba h
  obtain ⟨h2, h⟩ := He.ba h
  obtain ⟨h3, h⟩ := He.ba h
  obtain ⟨h4, h⟩ := He.ba h
  obtain ⟨h5, h⟩ := He.ba h
  obtain ⟨h6, h7⟩ := He.ba h
  refine ⟨of_decide_eq_true h1, eq_of_beq h2, eq_of_beq h3, of_decide_eq_true h4, of_decide_eq_true h5, fun x hx => ?_, fun y hy => of_decide_eq_true (List.all_eq_true.mp h7 y hy)⟩
  have := List.all_eq_true.mp h6 x hx
  rcases Bool.or_eq_true_iff.mp this with e | e
  · exact .inl (of_decide_eq_true e)
  · exact .inr (of_decide_eq_true e)
/-- how a def binds: n values are given, the defaults behind the first j fill up -/
def FD.Bnd (f : FD) : Prop := match f.dfl with
  | [] => ∀ (kV doc pm : Value) (an : Option Addr) (cdv ct : Value) (us : List Value), us.length = f.ps.length → bindArgs (PySem.W.fnOf f.name f.qual f.params f.body f.scope .none kV doc pm an cdv ct) ⟨us, []⟩ = pure (f.ps.zip us)
  | _ :: _ => ∀ (n j : Nat), j ≤ f.dfl.length → n + (f.dfl.length - j) = f.ps.length → ∀ (T : Addr) (kV doc pm : Value) (an : Option Addr) (cdv ct : Value) (us its : List Value), us.length = n → its.length = f.dfl.length →
      ∃ k, bindArgs (PySem.W.fnOf f.name f.qual f.params f.body f.scope (.ref T) kV doc pm an cdv ct) ⟨us, []⟩ = seqItems? (.ref T) >>= k ∧ k (some its.toArray) = pure (f.ps.zip (us ++ its.drop j))
theorem dvsOf_len (p : Str × Option Str) : ∀ (i : Nat) (l : List Dfl), (dvsOf p i l).length = l.length
  | _, [] => rfl
  | i, d :: r => by
    show (dvsOf p (i + 1) r).length + 1 = r.length + 1
    rw [dvsOf_len]
theorem dfl_vals {g : G} {p : Str × Option Str} : ∀ (i : Nat) (l : List Dfl), dflOk g.K p i l = true → ∀ (ρ : Nat → Addr) (n : Nat) (H : Hp), VRs g ρ n H (l.map Dfl.val) ((dvsOf p i l).map (He.Dv.v g.K))
  | _, [], _, ρ, n, H => by show VRs g ρ n H [] []; rw [VRs]
  | i, d :: r, h, ρ, n, H => by
    unfold dflOk at h
    obtain ⟨h1, h2⟩ := He.ba h
    show VRs g ρ n H (d.val :: r.map Dfl.val) ((d.dv p i).v g.K :: (dvsOf p (i + 1) r).map (He.Dv.v g.K))
    rw [VRs]
    refine ⟨_, _, rfl, ?_, dfl_vals (i + 1) r h2 ρ n H⟩
    cases d with
    | non => exact VR.non
    | bl b => exact VR.bl
    | int i => exact VR.int
    | str x => exact VR.str (lim_le (of_decide_eq_true h1))
    | ety =>
      have h1' : etyB g.K (He.dflAt p i g.K) = true := h1
      unfold etyB at h1'
      split at h1'
      · rename_i c its k sl e
        obtain ⟨a, b⟩ := He.ba h1'
        have a := of_decide_eq_true a
        have b := of_decide_eq_true b
        subst a b
        show VR g ρ n H (.tup []) (.ref (He.dflAt p i g.K))
        rw [VR]
        refine ⟨_, [], rfl, ⟨.inr ⟨_, #[], k, e, rfl, rfl, by decide, .nil⟩, fun _ => ⟨_, k, .inr e, rfl, rfl, rfl⟩⟩, by rw [VRs]⟩
      · cases h1'
theorem dv_ok {g : G} {f : FD} (B : f.Bnd) {a : Addr} {fd : FuncData} (F : FunD g.K f.d.name f.d.qual f.d.params f.d.body f.d.scope (f.d.dvs g.K) (f.d.kws g.K) a fd) (hd : dflOk g.K f.at_ 0 f.dfl = true) (hl : f.dfl.length ≤ f.ps.length) (m : Nat) : DV g fd f.ps ((f.dfl.map Dfl.val).drop m) := by
  have V := dfl_vals (g := g) 0 f.dfl hd
  unfold FD.Bnd at B
  split at B
  · rename_i e
    have F' : FunD g.K f.d.name f.d.qual f.d.params f.d.body f.d.scope [] (f.d.kws g.K) a fd := by
      have e2 : f.d.dvs g.K = [] := by show (dvsOf f.at_ 0 f.dfl).map _ = []; rw [e]; rfl
      rw [← e2]; exact F
    refine ⟨[], [], F'.bindsN B, .nil, fun ρ n H => ?_⟩
    rw [e]
    show VRs g ρ n H (List.drop m []) []
    rw [List.drop_nil, VRs]
  · rename_i d r e
    have hne : f.d.dvs g.K ≠ [] := by
      show (dvsOf f.at_ 0 f.dfl).map _ ≠ []
      rw [e]; exact List.cons_ne_nil _ _
    have hl2 : (f.d.dvs g.K).length = f.dfl.length := by show ((dvsOf f.at_ 0 f.dfl).map _).length = _; rw [List.length_map, dvsOf_len]
    by_cases hm : m ≤ f.dfl.length
    · obtain ⟨ds, hv, hb⟩ := FunD.binds1 (ps := f.ps) F (f.ps.length - (f.dfl.length - m)) m hne (by rw [hl2]; omega) fun T kV doc pm an cdv ct us its h1 h2 => B _ m hm (by omega) T kV doc pm an cdv ct us its h1 (by rw [← hl2]; exact h2)
      exact ⟨ds, _, hb, hv, fun ρ n H => (V ρ n H).drop m⟩
    · obtain ⟨ds, hv, hb⟩ := FunD.binds1 (ps := f.ps) F f.ps.length f.dfl.length hne (by rw [hl2]; omega) fun T kV doc pm an cdv ct us its h1 h2 => B _ f.dfl.length (Nat.le_refl _) (by omega) T kV doc pm an cdv ct us its h1 (by rw [← hl2]; exact h2)
      refine ⟨ds, _, hb, hv, fun ρ n H => ?_⟩
      have h3 := (V ρ n H).drop f.dfl.length
      have e1 : (f.dfl.map Dfl.val).drop f.dfl.length = (f.dfl.map Dfl.val).drop m := by
        rw [List.drop_of_length_le (by simp), List.drop_of_length_le (by simp; omega)]
      rw [e1] at h3
      exact h3
theorem allP {α : Type} {l : List α} {f : α → Bool} (h : l.all f = true) {a : α} (ha : a ∈ l) : f a = true := List.all_eq_true.mp h a ha
theorem insB_ok {g : G} {c : Nat} (h : insB g.K (g.C c) = true) : InsTy g c := by
  obtain ⟨h1, h⟩ := He.ba h
  obtain ⟨h2, h⟩ := He.ba h
  obtain ⟨h3, h⟩ := He.ba h
  obtain ⟨h4, h5⟩ := He.ba h
  exact ⟨clsB_ok h1, He.eqO_ok h2, He.eqO_ok h3, of_decide_eq_true h4, of_decide_eq_true h5⟩
/-- THE HEAD, by checks -/
theorem Dt.hd {D : Dt} {P : Program} {w : World} {K : PySem.W.Frag} {mg : Str → Option Value} {base h : PySem.Heap} (X : K.In h) (G : h.Ns mainGlobals mg) (hk : D.ok K = true) (hf : ∀ f ∈ D.fns, okAt K (f.ad K) f.d = true) (he : ∀ f ∈ D.fns, fnAt K (f.ad K) = f.d.val)
    (hs : ∀ f ∈ D.fns, f.scB = true) (hb : ∀ f ∈ D.fns, f.Bnd) (hl : ∀ f ∈ D.fns, f.dfl.length ≤ f.ps.length)
    (hk2 : D.ok2 K = true) (hxo : ∀ d ∈ D.xds, d.obs K = d.val) (hxt : ∀ d ∈ D.xds, d.txt = true) (hxb : ∀ d ∈ D.xds, d.Bnd) (hfile : P.main.file = D.file) (htop : (P.main.scope.names.lookup ("super" : Str)).isSome = false) : Hd ⟨P, w, K, mg, base, D.cad K⟩ D.tb D.fn (D.ad K) (D.fdt K) := by
  obtain ⟨m0, hk2⟩ := He.ba hk2
  obtain ⟨m1, hk2⟩ := He.ba hk2
  obtain ⟨m2, hk2⟩ := He.ba hk2
  obtain ⟨m3, hk2⟩ := He.ba hk2
  obtain ⟨m4, m5⟩ := He.ba hk2
  obtain ⟨hk, k9⟩ := He.ba hk
  obtain ⟨hk, k8⟩ := He.ba hk
  obtain ⟨hk, k7⟩ := He.ba hk
  obtain ⟨hk, k6⟩ := He.ba hk
  obtain ⟨hk, k5⟩ := He.ba hk
  obtain ⟨hk, k4⟩ := He.ba hk
  obtain ⟨hk, k3⟩ := He.ba hk
  obtain ⟨k1, k2⟩ := He.ba hk
  have fnd : ∀ i f, D.fns[i]? = some f → FunD K f.d.name f.d.qual f.d.params f.d.body f.d.scope (f.d.dvs K) (f.d.kws K) (D.ad K i) (D.fdt K i) := fun i f e => by
    have hm := List.mem_of_getElem? e
    obtain ⟨fd, F⟩ := funAt (K := K) (d := f.d) (he f hm) (hf f hm)
    have ea : D.ad K i = f.ad K := by unfold Dt.ad; rw [e]
    have ef : D.fdt K i = fd := by
      obtain ⟨oc, od, dV, kV, doc, pm, an, cdv, ct, osl, _, lk, _⟩ := F.ex
      unfold Dt.fdt
      rw [ea]
      have lk' : K.lookup (f.ad K) = some ⟨oc, od, .func fd, osl⟩ := lk
      rw [lk']
    rw [ea, ef]; exact F
  have okM : ∀ {C : Addr} {m : Str} {i : Nat}, D.okM K C m i = true → PySem.W.findIn K (.ref C) m = some (some (.ref (D.ad K i))) ∧ PySem.W.isFn K (.ref (D.ad K i)) = true := fun {C m i} h => by
    obtain ⟨a, b⟩ := He.ba h
    exact ⟨He.eqO_ok a, b⟩
  refine ⟨fun i f e => ?_, fun i f e => ?_, fun x i e => ?_, fun c i e => ?_, fun x c e => ?_, fun x v e => ?_, fun x e => ?_, fun c m i e => ?_, fun c i e => ?_, fun c i e => ?_, fun op c i e => ?_, fun c f e => ?_, ⟨fun c u b e => ?_, fun t u b e => ?_⟩, ⟨fun c t e => ?_, fun c k e => ?_⟩, fun c m i e => ?_, fun op c e => ?_, fun x c fld e => ?_, fun c' c b e => ?_, fun hx => ?_, fun c m i e => ?_⟩
  · obtain ⟨d, e1, rfl⟩ := Option.map_eq_some_iff.mp (show D.fns[i]?.map FD.fn = some f from e)
    exact ⟨⟨_, _, _, _, _, fnd i d e1⟩, FD.scB_ok (hs d (List.mem_of_getElem? e1))⟩
  · obtain ⟨d, e1, rfl⟩ := Option.map_eq_some_iff.mp (show D.fns[i]?.map FD.fi = some f from e)
    have hm := List.mem_of_getElem? e1
    exact ⟨d.fn, by show D.fns[i]?.map FD.fn = _; rw [e1]; rfl, rfl, fun m => dv_ok (g := ⟨P, w, K, mg, base, D.cad K⟩) (hb d hm) (fnd i d e1) (allP k2 hm) (hl d hm) m⟩
  · have q := allP k1 (look_mem e)
    obtain ⟨a, b⟩ := He.ba (show (He.eqO (PySem.W.nsIn K mainGlobals x) (some (some (.ref (D.ad K i)))) && decide (i < D.fns.length)) = true from q)
    have hi := of_decide_eq_true b
    exact ⟨PySem.W.mg_of X G (He.eqO_ok a), (fnd i _ (List.getElem?_eq_getElem hi)).kp⟩
  · have q := allP k3 (look_mem e)
    obtain ⟨a, q⟩ := He.ba q
    obtain ⟨b, c'⟩ := He.ba q
    obtain ⟨m1, m2⟩ := okM b
    exact ⟨a, m1, m2, c'⟩
  · have q := allP k1 (look_mem e)
    exact PySem.W.mg_of X G (He.eqO_ok (show He.eqO (PySem.W.nsIn K mainGlobals x) (some (some (.ref (D.cad K c)))) = true from q))
  · have q : conB K x v = true := allP k1 (look_mem e)
    cases v with
    | int i =>
      simp only [conB] at q
      split at q
      · rename_i j t z
        have := of_decide_eq_true q
        subst this
        exact ⟨_, .int j, PySem.W.mg_of X G z, ⟨t, rfl⟩, fun _ _ _ => VR.int⟩
      · cases q
    | bl i =>
      simp only [conB] at q
      split at q
      · rename_i j z
        have := of_decide_eq_true q
        subst this
        exact ⟨_, .bl j, PySem.W.mg_of X G z, rfl, fun _ _ _ => VR.bl⟩
      · cases q
    | str i =>
      simp only [conB] at q
      obtain ⟨q0, q⟩ := He.ba q
      split at q
      · rename_i j t z
        have := of_decide_eq_true q
        subst this
        exact ⟨_, .str j, PySem.W.mg_of X G z, ⟨t, rfl⟩, fun _ _ _ => VR.str (lim_le (of_decide_eq_true q0))⟩
      · cases q
    | tup vs =>
      simp only [conB] at q
      split at q
      · rename_i zs hz
        obtain ⟨q1, q⟩ := He.ba q
        obtain ⟨q2, q⟩ := He.ba q
        obtain ⟨q3, q4⟩ := He.ba q
        refine ⟨_, .ref (He.ga K x), PySem.W.mg_of X G (He.eqO_ok q1), rfl, fun ρ n H => ?_⟩
        rw [VR]
        have sq := He.tupB_ok q2 H
        rw [List.map_map, show (He.Dv.v K ∘ He.Dv.str) = L2.V.str from rfl] at sq
        refine ⟨_, zs.map L2.V.str, rfl, ⟨sq, fun e => ?_⟩, vrs_strs hz fun z hz' => lim_le (of_decide_eq_true (allP q4 hz'))⟩
        cases zs with
        | nil => cases q3
        | cons => cases e
      · cases q
    | _ => cases q
  · have q := allP k1 (look_mem e)
    exact PySem.W.mg_none_of X G (He.eqO_ok (show He.eqO (PySem.W.nsIn K mainGlobals x) (some none) = true from q))
  · have q := allP k4 (look_mem e)
    obtain ⟨a, q⟩ := He.ba q
    obtain ⟨b, c'⟩ := He.ba q
    obtain ⟨m1, m2⟩ := okM b
    exact ⟨clsB_ok a, m1, m2, c'⟩
  · have q := allP k5 (look_mem e)
    obtain ⟨a, q⟩ := He.ba q
    obtain ⟨b, c'⟩ := He.ba q
    obtain ⟨m1, m2⟩ := okM a
    exact ⟨m1, m2, He.eqO_ok b, of_decide_eq_true (He.ba c').1⟩
  · have q := allP k5 (look_mem e)
    obtain ⟨a, q⟩ := He.ba q
    obtain ⟨b, c'⟩ := He.ba q
    obtain ⟨d1, d2⟩ := He.ba (He.ba c').2
    exact ⟨of_decide_eq_true d1, of_decide_eq_true d2⟩
  · have q := allP k6 (look_mem e)
    obtain ⟨a, q⟩ := He.ba q
    obtain ⟨b, c'⟩ := He.ba q
    obtain ⟨m1, m2⟩ := okM a
    exact ⟨m1, m2, b, insB_ok (g := ⟨P, w, K, mg, base, D.cad K⟩) c'⟩
  · have q := allP k7 (of_decide_eq_true e)
    obtain ⟨a, b⟩ := He.ba q
    exact ⟨clsB_ok a, He.eqO_ok b⟩
  · have q := allP k8 (look_mem e)
    exact insB_ok (g := ⟨P, w, K, mg, base, D.cad K⟩) (He.ba q).1
  · have q := allP k8 (look_mem e)
    have z := of_decide_eq_true (He.ba q).2
    cases t <;> cases u <;> exact z
  · have q := allP k9 (of_decide_eq_true e)
    have z := (He.ba q).2
    cases t <;> exact z
  · have q := allP k9 (of_decide_eq_true e)
    exact insB_ok (g := ⟨P, w, K, mg, base, D.cad K⟩) (He.ba q).1
  · exact prB_ok (allP m1 (look_mem e))
  · exact obtB_ok (g := ⟨P, w, K, mg, base, D.cad K⟩) (allP m2 (of_decide_eq_true e))
  · obtain ⟨d, e1, e2⟩ := Option.map_eq_some_iff.mp e
    have hd := List.mem_of_find?_eq_some e1
    obtain ⟨hn, hz⟩ := He.ba (List.find?_some (p := fun d : XD => decide (d.name = x) && !d.zero) e1)
    have hn : d.name = x := of_decide_eq_true (p := d.name = x) hn
    have hz : d.zero = false := by simpa using hz
    cases e2
    subst hn
    obtain ⟨q1, q2⟩ := He.ba (allP m3 hd)
    rw [hz] at q2
    obtain ⟨a, b⟩ := XD.xok (w := w) (base := base) (Cf := D.cad K) X G q1 (hxo d hd) (hxt d hd) (hxb d hd) hfile htop
    exact ⟨a, b.1 hz, xrB_ok (g := ⟨P, w, K, mg, base, D.cad K⟩) (by simpa using q2)⟩
  · exact of_decide_eq_true (allP m4 (look_mem e))
  · have m0 : D.ok3 K = true := by
      rcases Bool.or_eq_true_iff.mp m0 with q | q
      · rw [show D.hasX = true from hx] at q; cases q
      · exact q
    obtain ⟨c1, m0⟩ := He.ba m0
    obtain ⟨c2, c3⟩ := He.ba m0
    refine ⟨⟨fun c t b e => ?_⟩, ⟨fun c f e => ?_⟩, fun x c fld kn e => ?_, fun x c e => ?_, fun x c e => ?_⟩
    · obtain ⟨q1, q2⟩ := He.ba (allP c1 (look_mem e))
      refine ⟨xisB_ok q1, ?_⟩
      have z := of_decide_eq_true q2
      cases t <;> exact z
    · obtain ⟨q1, q2⟩ := He.ba (allP c2 (of_decide_eq_true e))
      exact ⟨xfB_ok q1, He.eqO_ok q2⟩
    · obtain ⟨d, e1, e2⟩ := Option.map_eq_some_iff.mp e
      have hd := List.mem_of_find?_eq_some e1
      obtain ⟨hn, hz⟩ := He.ba (List.find?_some (p := fun d : XD => decide (d.name = x) && (!d.zero && d.kw)) e1)
      obtain ⟨hz, hk⟩ := He.ba hz
      have hn : d.name = x := of_decide_eq_true (p := d.name = x) hn
      have hz : d.zero = false := by simpa using hz
      cases e2
      subst hn
      obtain ⟨q1, q2⟩ := He.ba (allP m3 hd)
      obtain ⟨a, b⟩ := XD.xok (w := w) (base := base) (Cf := D.cad K) X G q1 (hxo d hd) (hxt d hd) (hxb d hd) hfile htop
      exact ⟨a, b.2.2 hz hk⟩
    · obtain ⟨d, e1, e2⟩ := Option.map_eq_some_iff.mp e
      have hd := List.mem_of_find?_eq_some e1
      obtain ⟨hn, hz⟩ := He.ba (List.find?_some (p := fun d : XD => decide (d.name = x) && d.zero) e1)
      have hn : d.name = x := of_decide_eq_true (p := d.name = x) hn
      cases e2
      subst hn
      obtain ⟨q1, q2⟩ := He.ba (allP m3 hd)
      obtain ⟨a, b⟩ := XD.xok (w := w) (base := base) (Cf := D.cad K) X G q1 (hxo d hd) (hxt d hd) (hxb d hd) hfile htop
      exact ⟨a, b.2.1 hz⟩
    · obtain ⟨q1, q⟩ := He.ba (allP c3 (look_mem e))
      obtain ⟨q2, q3⟩ := He.ba q
      exact ⟨PySem.W.mg_of X G (He.eqO_ok q1), ⟨_, F.excBase_ValueError, q2⟩, q3⟩
  · exact ctB_ok (allP m5 (look_mem e))
end MP
end
section
set_option autoImplicit false
set_option linter.all false
namespace MP
open PySem L2 PySem.Spec PyProof.Rows
abbrev AlM : Type := Bool × List He.FnW × List XV
def Dt.obsK (D : Dt) (K : PySem.W.Frag) : AlM := ((D.ok K && D.fns.all (fun f => okAt K (f.ad K) f.d)) && D.ok2 K, D.fns.map (fun f => fnAt K (f.ad K)), D.xds.map fun d => d.obs K)
def Dt.valK (D : Dt) : AlM := (true, D.fns.map (fun f => f.d.val), D.xds.map XD.val)
def Dt.obsG (D : Dt) (_ : Nat) (g : Addr → Option Obj) (k : Nat) : AlM := D.obsK (He.frG g (List.range k).reverse)
def Dt.hook (D : Dt) (n : Nat) : PySem.W.Hook where
  α := AlM
  obs := fun s => D.obsG n s.heap.get? s.heap.objs.size
  val := fun _ => D.valK
  says := fun _ h => ∃ K : PySem.W.Frag, K.In h ∧ D.obsK K = D.valK
  of := fun _ _ e => ⟨_, He.frG_in, e⟩
  keeps := fun _ _ _ ⟨K, hK, c⟩ k => ⟨K, PySem.W.Frag.In.keeps hK k, c⟩
def Dt.ob (D : Dt) (n : Nat) (s : PySem.W.SharedT) : AlM := D.obsG n (HandSHeadRun.getT s) s.n
theorem Dt.ob_eq (D : Dt) (n : Nat) (s : PySem.W.SharedT) : D.ob n s = (D.hook n).obs s.abs := by
  have e : HandSHeadRun.getT s = s.abs.heap.get? := funext (HandSHeadRun.getT_eq s)
  have e2 : s.abs.heap.objs.size = s.n := PySem.W.absHeap_size _ _ _
  show D.obsG n (HandSHeadRun.getT s) s.n = D.obsG n s.abs.heap.get? s.abs.heap.objs.size
  rw [e, e2]
/-- all objects behind the top -/
def Ks (s : PySem.W.SharedT) : PySem.W.Frag := He.frG (HandSHeadRun.getT s) (List.range s.n).reverse
/-- the head's run by parts (each looked at alone) -/
theorem run_parts {D : Dt} {r : PySem.W.OpenRow} {q : Program} {M n : Nat} {loose : List Str} {w : World}
    (h1 : ∀ os : OsState, (HandSHeadRun.endF (HandSHeadRun.stepQ (HandSHeadRun.denQ HandSHeadRun.tabQ) r.prog w) M r.prog w os).map (fun s => (HandSHeadRun.looksF r.prog (PySem.W.boot_heap w.params) s.abs, HandSHeadRun.seenQ q loose (importedModules r.prog.main.body) (fun s => PySem.W.xlAt q [] s && PySem.W.recOk r.toRowW.records s) s.abs)) = some (true, PySem.W.openGood q loose))
    (h2 : ∀ os : OsState, (HandSHeadRun.endF (HandSHeadRun.stepQ (HandSHeadRun.denQ HandSHeadRun.tabQ) r.prog w) M r.prog w os).map (fun s => D.ok (Ks s)) = some true)
    (h3 : ∀ os : OsState, (HandSHeadRun.endF (HandSHeadRun.stepQ (HandSHeadRun.denQ HandSHeadRun.tabQ) r.prog w) M r.prog w os).map (fun s => (D.fns.all fun f => okAt (Ks s) (f.ad (Ks s)) f.d) && D.ok2 (Ks s)) = some true)
    (h4 : ∀ os : OsState, (HandSHeadRun.endF (HandSHeadRun.stepQ (HandSHeadRun.denQ HandSHeadRun.tabQ) r.prog w) M r.prog w os).map (fun s => (D.fns.map (fun f => fnAt (Ks s) (f.ad (Ks s))), D.xds.map fun d => d.obs (Ks s))) = some (D.fns.map (fun f => f.d.val), D.xds.map XD.val)) :
    HandSHeadRun.RunEq r q (D.hook n) (D.ob n) M loose w := by
  intro os
  have h1 := h1 os
  have h2 := h2 os
  have h3 := h3 os
  have h4 := h4 os
  generalize HandSHeadRun.endF (HandSHeadRun.stepQ (HandSHeadRun.denQ HandSHeadRun.tabQ) r.prog w) M r.prog w os = X at h1 h2 h3 h4 ⊢
  cases X with
  | none => cases h2
  | some s =>
    have k1 : (HandSHeadRun.looksF r.prog (PySem.W.boot_heap w.params) s.abs, HandSHeadRun.seenQ q loose (importedModules r.prog.main.body) (fun s => PySem.W.xlAt q [] s && PySem.W.recOk r.toRowW.records s) s.abs) = (true, PySem.W.openGood q loose) := Option.some.inj h1
    have k2 : D.ok (Ks s) = true := Option.some.inj h2
    have k3 : ((D.fns.all fun f => okAt (Ks s) (f.ad (Ks s)) f.d) && D.ok2 (Ks s)) = true := Option.some.inj h3
    have k4 : (D.fns.map (fun f => fnAt (Ks s) (f.ad (Ks s))), D.xds.map fun d => d.obs (Ks s)) = (D.fns.map (fun f => f.d.val), D.xds.map XD.val) := Option.some.inj h4
    obtain ⟨k3, k5⟩ := He.ba k3
    show some (_, _, _) = _
    refine congrArg some (Prod.ext (congrArg Prod.fst k1 : _) (Prod.ext (congrArg (fun z => z.2) k1 : _) ?_))
    show D.obsK (Ks s) = D.valK
    unfold Dt.obsK Dt.valK
    rw [k2, k3, k5]
    exact Prod.ext rfl k4
theorem map_all {α β : Type} {f g : α → β} : ∀ {l : List α}, l.map f = l.map g → ∀ a ∈ l, f a = g a
  | [], _, a, h => absurd h List.not_mem_nil
  | b :: l, e, a, h => by
    rw [List.map_cons, List.map_cons] at e
    injection e with e1 e2
    rcases List.mem_cons.mp h with rfl | h
    · exact e1
    · exact map_all e2 a h
/-- the law's promise over every base -/
theorem Dt.facts {D : Dt} {P : Program} {w : World} {K : PySem.W.Frag} {mg : Str → Option Value} {h : PySem.Heap} {fa : Addr} {i : Nat} {f : FD} {x lw : Str} {wf fuel d : Nat} (X : K.In h) (G : h.Ns mainGlobals mg) (hfa : mg lw = some (.ref fa)) (c : D.obsK K = D.valK)
    (hs : ∀ f ∈ D.fns, f.scB = true) (hb : ∀ f ∈ D.fns, f.Bnd) (hl : ∀ f ∈ D.fns, f.dfl.length ≤ f.ps.length) (hi : D.fns[i]? = some f) (hg : (lw, GN.fn i) ∈ D.gns) (hps : f.ps = [x]) (hdf : f.dfl = []) (hxt : ∀ d ∈ D.xds, d.txt = true) (hxb : ∀ d ∈ D.xds, d.Bnd) (hfile : P.main.file = D.file) (htop : (P.main.scope.names.lookup ("super" : Str)).isSome = false)
    (main : ∀ ns : List Int, ns.length ≤ 63 → ∃ h', callF D.tb D.fn wf fuel d i [.scr ns] [] = .ok (.bl true) h') :
    ∃ (fd : FuncData) (sp : Sp), (∀ (s : Shared) (u : Value), BindsTo s fd ⟨[u], []⟩ [(x, u)]) ∧
        (∀ (H : Hp) (a : Addr) (ns : List Int), ns.length ≤ 63 → Only H → SqL K H a (ns.map V.int) → sp [.ref a] H (fun v _ => v = .bl true) fun _ _ _ => False) ∧
        ∀ base : PySem.Heap, K.In base → base.Ns mainGlobals mg → FnOk P w K mg base (L2.CX P w) (2 * d + 1) fa fd [x] sp := by
  have c0 : ((D.ok K && D.fns.all (fun f => okAt K (f.ad K) f.d)) && D.ok2 K) = true := congrArg (fun z : AlM => z.1) c
  have c2 : D.fns.map (fun f => fnAt K (f.ad K)) = D.fns.map fun f => f.d.val := congrArg (fun z : AlM => z.2.1) c
  have c3 : D.xds.map (fun d => d.obs K) = D.xds.map XD.val := congrArg (fun z : AlM => z.2.2) c
  obtain ⟨c1, c4⟩ := He.ba c0
  obtain ⟨k1, k2⟩ := He.ba c1
  have hd : ∀ base : PySem.Heap, K.In base → base.Ns mainGlobals mg → Hd ⟨P, w, K, mg, base, D.cad K⟩ D.tb D.fn (D.ad K) (D.fdt K) := fun base hK hN => Dt.hd hK hN k1 (fun f hf => allP k2 hf) (map_all c2) hs hb hl c4 (map_all c3) hxt hxb hfile htop
  have efa : fa = D.ad K i := by
    obtain ⟨k0, _⟩ := He.ba k1
    obtain ⟨k0, _⟩ := He.ba k0
    obtain ⟨k0, _⟩ := He.ba k0
    obtain ⟨k0, _⟩ := He.ba k0
    obtain ⟨k0, _⟩ := He.ba k0
    obtain ⟨k0, _⟩ := He.ba k0
    obtain ⟨k0, _⟩ := He.ba k0
    obtain ⟨k0, _⟩ := He.ba k0
    have q := allP k0 hg
    have e := PySem.W.mg_of X G (He.eqO_ok (He.ba (show (He.eqO (PySem.W.nsIn K mainGlobals lw) (some (some (.ref (D.ad K i)))) && decide (i < D.fns.length)) = true from q)).1)
    rw [hfa] at e
    cases e
    rfl
  subst efa
  have hmem := List.mem_of_getElem? hi
  refine ⟨D.fdt K i, fun vs H Q E => ∀ base, spF ⟨P, w, K, mg, base, D.cad K⟩ f.ps.length (callF D.tb D.fn wf fuel d i) vs H Q E, fun s u => ?_, fun H a ns hn hO hS base => ?_, fun base hK hN => ?_⟩
  · have B := hb f hmem
    unfold FD.Bnd at B
    rw [hdf] at B
    have DO := (hd h X G).dfn i f.fn (by show D.fns[i]?.map FD.fn = _; rw [hi]; rfl)
    obtain ⟨x', qual, params, dvs, kws, F⟩ := DO.ex
    obtain ⟨fd, F2⟩ := funAt (K := K) (d := f.d) (map_all c2 f hmem) (allP k2 hmem)
    have ea : D.ad K i = f.ad K := by unfold Dt.ad; rw [hi]
    have ef : D.fdt K i = fd := by
      obtain ⟨oc, od, dV, kV, doc, pm, an, cdv, ct, osl, _, lk, _⟩ := F2.ex
      unfold Dt.fdt
      rw [ea]
      have lk' : K.lookup (f.ad K) = some ⟨oc, od, .func fd, osl⟩ := lk
      rw [lk']
    have F3 : FunD K f.d.name f.d.qual f.d.params f.d.body f.d.scope [] (f.d.kws K) (f.ad K) fd := by
      have e2 : f.d.dvs K = [] := by show (dvsOf f.at_ 0 f.dfl).map _ = []; rw [hdf]; rfl
      rw [← e2]; exact F2
    have := FunD.bindsA (ps := f.ps) F3 B s [u] (by rw [hps]; rfl)
    rw [hps] at this
    rw [ef]
    exact this
  · obtain ⟨h', hc⟩ := main ns hn
    refine ⟨fun _ => 0, [], [.scr ns], ⟨fun i j hi => absurd hi (Nat.not_lt_zero _), fun i b c e => by simp at e⟩, ?_, by rw [hps]; rfl, ?_⟩
    · rw [VRs]
      refine ⟨_, [], rfl, ?_, by rw [VRs]⟩
      rw [VR]
      refine ⟨a, rfl, ?_⟩
      rcases hS with (hS | ⟨o, hS⟩) | hS
      · rcases hO a with e | ⟨o, xs, e⟩ <;> rw [hS] at e <;> cases e
      · exact .inl ⟨o, hS⟩
      · exact .inr hS
    · rw [hc]
      exact fun ρ' H' b st r' t' => t'.of_bl
  · have F := ((hd base hK hN).call (wf := wf) (fuel := fuel) d i f.fn (by show D.fns[i]?.map FD.fn = _; rw [hi]; rfl)).fn
    have F' : FnOk P w K mg base (L2.CX P w) (2 * d + 1) (D.ad K i) (D.fdt K i) [x] (spF ⟨P, w, K, mg, base, D.cad K⟩ f.ps.length (callF D.tb D.fn wf fuel d i)) := by rw [← hps]; exact F
    exact F'.imp fun vs H Q E q => q base
end MP
end
section
set_option Elab.async false
set_option linter.all false
set_option maxRecDepth 100000
set_option maxHeartbeats 0
namespace MPL
open PySem L2 MP
abbrev P : Program := PySem.Challenge.pw_statementlots_k21_errors_made
def top (i : Nat) : Stmt := P.main.body.getD i (.Pass ⟨0, 0, 0, 0⟩)
def meth (i j : Nat) : Stmt := match top i with
  | .ClassDef _ _ _ body _ _ _ _ _ _ _ => body.getD j (.Pass ⟨0, 0, 0, 0⟩)
  | _ => .Pass ⟨0, 0, 0, 0⟩
def fdOf (st : Stmt) (at_ : Str × Option Str) (name qual : Str) (ps N : List Str) (dfl : List Dfl) (pr cm : Bool) : FD := ⟨at_, name, qual, defArgs st, defBody st, defScope st, ps, N, dfl, pr, cm⟩
theorem fa_nil {α : Type} {p : α → Prop} : ∀ f ∈ ([] : List α), p f := fun _ h => absurd h List.not_mem_nil
theorem fa_cons {α : Type} {p : α → Prop} {a : α} {l : List α} (h1 : p a) (h2 : ∀ f ∈ l, p f) : ∀ f ∈ a :: l, p f := fun f h => (List.mem_cons.mp h).elim (fun e => e ▸ h1) (h2 f)
/-- _law_source -/
def f0 : FD := fdOf (top 17) ("_law_source", none) "_law_source" "_law_source" ["_law_script"] ["_law_script", "_law_great", "_law_seed", "_law_cell"] [] false false
/-- _law_draw -/
def f1 : FD := fdOf (top 18) ("_law_draw", none) "_law_draw" "_law_draw" ["_law_source_here", "_law_many"] ["_law_source_here", "_law_many", "_law_digit", "_law_mixed"] [] false false
/-- _law_pick -/
def f2 : FD := fdOf (top 19) ("_law_pick", none) "_law_pick" "_law_pick" ["_law_source_here", "_law_things"] ["_law_source_here", "_law_things"] [] false false
/-- _law_kinds -/
def f3 : FD := fdOf (top 20) ("_law_kinds", none) "_law_kinds" "_law_kinds" ["_law_e"] ["_law_e", "_law_found"] [] false false
/-- law -/
def f4 : FD := fdOf (top 21) ("law", none) "law" "law" ["_law_script"] ["_law_script", "_law_source_here", "_law_x", "_law_pairs", "_law_errors", "_law_pair", "_law_fields", "_law_k", "_law_j", "_law_base"] [] false false
def x0 : XD := ⟨"BadTable", 1, ("BadTable", some "__init__"), "__init__", "BadTable.__init__", defArgs (meth 2 0), defBody (meth 2 0), defScope (meth 2 0), "self", "name", "name", "a table is not right", false, true⟩
def x1 : XD := ⟨"BadStatement", 2, ("BadStatement", some "__init__"), "__init__", "BadStatement.__init__", defArgs (meth 3 0), defBody (meth 3 0), defScope (meth 3 0), "self", "kind", "kind", "a statement is not right", false, true⟩
def x2 : XD := ⟨"BadForm", 3, ("BadForm", some "__init__"), "__init__", "BadForm.__init__", defArgs (meth 4 0), defBody (meth 4 0), defScope (meth 4 0), "self", "word", "word", "a form is not right", false, true⟩
def x3 : XD := ⟨"BadNumber", 4, ("BadNumber", some "__init__"), "__init__", "BadNumber.__init__", defArgs (meth 5 0), defBody (meth 5 0), defScope (meth 5 0), "self", "number", "number", "not a number that may stand here", false, true⟩
def x4 : XD := ⟨"BadTrigger", 5, ("BadTrigger", some "__init__"), "__init__", "BadTrigger.__init__", defArgs (meth 6 0), defBody (meth 6 0), defScope (meth 6 0), "self", "place", "place", "a trigger is not right", false, true⟩
def x5 : XD := ⟨"BadBook", 6, ("BadBook", some "__init__"), "__init__", "BadBook.__init__", defArgs (meth 7 0), defBody (meth 7 0), defScope (meth 7 0), "self", "place", "place", "a book is not right", false, true⟩
def x6 : XD := ⟨"BadText", 7, ("BadText", some "__init__"), "__init__", "BadText.__init__", defArgs (meth 8 0), defBody (meth 8 0), defScope (meth 8 0), "self", "line", "line", "not a text here", false, true⟩
def x7 : XD := ⟨"Overlap", 8, ("Overlap", some "__init__"), "__init__", "Overlap.__init__", defArgs (meth 9 0), defBody (meth 9 0), defScope (meth 9 0), "self", "kind", "kind", "two statements cannot have this kind in common", false, true⟩
def x8 : XD := ⟨"Unknown", 9, ("Unknown", some "__init__"), "__init__", "Unknown.__init__", defArgs (meth 10 0), defBody (meth 10 0), defScope (meth 10 0), "self", "name", "name", "the book has no such name", false, true⟩
def x9 : XD := ⟨"BadPicks", 10, ("BadPicks", some "__init__"), "__init__", "BadPicks.__init__", defArgs (meth 11 0), defBody (meth 11 0), defScope (meth 11 0), "self", "kind", "kind", "picks are not right", false, true⟩
def x10 : XD := ⟨"BadClass", 11, ("BadClass", some "__init__"), "__init__", "BadClass.__init__", defArgs (meth 12 0), defBody (meth 12 0), defScope (meth 12 0), "self", "index", "index", "a class of tables is not right", false, true⟩
def x11 : XD := ⟨"Refused", 12, ("Refused", some "__init__"), "__init__", "Refused.__init__", defArgs (meth 13 0), defBody (meth 13 0), defScope (meth 13 0), "self", "name", "name", "a trigger has refused the statement", false, true⟩
def x12 : XD := ⟨"Endless", 13, ("Endless", some "__init__"), "__init__", "Endless.__init__", defArgs (meth 14 0), defBody (meth 14 0), defScope (meth 14 0), "self", "-", "-", "the statement never ends", true, false⟩
def x13 : XD := ⟨"NoDeed", 14, ("NoDeed", some "__init__"), "__init__", "NoDeed.__init__", defArgs (meth 15 0), defBody (meth 15 0), defScope (meth 15 0), "self", "-", "-", "there is no such deed", true, false⟩
def D : Dt where
  fns := f0 :: f1 :: f2 :: f3 :: f4 :: []
  cls := ["LotError", "BadTable", "BadStatement", "BadForm", "BadNumber", "BadTrigger", "BadBook", "BadText", "Overlap", "Unknown", "BadPicks", "BadClass", "Refused", "Endless", "NoDeed"]
  gns := (("_law_source" : Str), GN.fn 0) :: (("_law_draw" : Str), GN.fn 1) :: (("_law_pick" : Str), GN.fn 2) :: (("_law_kinds" : Str), GN.fn 3) :: (("law" : Str), GN.fn 4) :: (("LotError" : Str), GN.cls 0) :: (("BadTable" : Str), GN.cls 1) :: (("BadStatement" : Str), GN.cls 2) :: (("BadForm" : Str), GN.cls 3) :: (("BadNumber" : Str), GN.cls 4) :: (("BadTrigger" : Str), GN.cls 5) :: (("BadBook" : Str), GN.cls 6) :: (("BadText" : Str), GN.cls 7) :: (("Overlap" : Str), GN.cls 8) :: (("Unknown" : Str), GN.cls 9) :: (("BadPicks" : Str), GN.cls 10) :: (("BadClass" : Str), GN.cls 11) :: (("Refused" : Str), GN.cls 12) :: (("Endless" : Str), GN.cls 13) :: (("NoDeed" : Str), GN.cls 14) :: (("len" : Str), GN.blt) :: (("int" : Str), GN.blt) :: (("any" : Str), GN.blt) :: (("isinstance" : Str), GN.blt) :: (("range" : Str), GN.blt) :: (("ValueError" : Str), GN.blt) :: []
  inis := []
  cms := []
  oes := []
  obs := []
  nas := []
  tts := ((Ty.b "NoneType", Ty.b "str"), false) :: ((Ty.b "NoneType", Ty.b "int"), false) :: ((Ty.b "NoneType", Ty.b "bool"), false) :: ((Ty.b "NoneType", Ty.b "list"), false) :: ((Ty.b "NoneType", Ty.b "tuple"), false) :: ((Ty.b "NoneType", Ty.b "dict"), false) :: ((Ty.b "bool", Ty.b "str"), false) :: ((Ty.b "bool", Ty.b "int"), true) :: ((Ty.b "bool", Ty.b "bool"), true) :: ((Ty.b "bool", Ty.b "list"), false) :: ((Ty.b "bool", Ty.b "tuple"), false) :: ((Ty.b "bool", Ty.b "dict"), false) :: ((Ty.b "int", Ty.b "str"), false) :: ((Ty.b "int", Ty.b "int"), true) :: ((Ty.b "int", Ty.b "bool"), false) :: ((Ty.b "int", Ty.b "list"), false) :: ((Ty.b "int", Ty.b "tuple"), false) :: ((Ty.b "int", Ty.b "dict"), false) :: ((Ty.b "str", Ty.b "str"), true) :: ((Ty.b "str", Ty.b "int"), false) :: ((Ty.b "str", Ty.b "bool"), false) :: ((Ty.b "str", Ty.b "list"), false) :: ((Ty.b "str", Ty.b "tuple"), false) :: ((Ty.b "str", Ty.b "dict"), false) :: ((Ty.b "list", Ty.b "str"), false) :: ((Ty.b "list", Ty.b "int"), false) :: ((Ty.b "list", Ty.b "bool"), false) :: ((Ty.b "list", Ty.b "list"), true) :: ((Ty.b "list", Ty.b "tuple"), false) :: ((Ty.b "list", Ty.b "dict"), false) :: ((Ty.b "dict", Ty.b "str"), false) :: ((Ty.b "dict", Ty.b "int"), false) :: ((Ty.b "dict", Ty.b "bool"), false) :: ((Ty.b "dict", Ty.b "list"), false) :: ((Ty.b "dict", Ty.b "tuple"), false) :: ((Ty.b "dict", Ty.b "dict"), true) :: ((Ty.b "tuple", Ty.b "str"), false) :: ((Ty.b "tuple", Ty.b "int"), false) :: ((Ty.b "tuple", Ty.b "bool"), false) :: ((Ty.b "tuple", Ty.b "list"), false) :: ((Ty.b "tuple", Ty.b "tuple"), true) :: ((Ty.b "tuple", Ty.b "dict"), false) :: []
  nfs := []
  prs := []
  obts := []
  xds := [x0, x1, x2, x3, x4, x5, x6, x7, x8, x9, x10, x11, x12, x13]
  xms := [((1, 1), true), ((1, 2), false), ((1, 3), false), ((1, 4), false), ((1, 5), false), ((1, 6), false), ((1, 7), false), ((1, 8), false), ((1, 9), false), ((1, 10), false), ((1, 11), false), ((1, 12), false), ((1, 13), false), ((1, 14), false), ((2, 1), false), ((2, 2), true), ((2, 3), false), ((2, 4), false), ((2, 5), false), ((2, 6), false), ((2, 7), false), ((2, 8), false), ((2, 9), false), ((2, 10), false), ((2, 11), false), ((2, 12), false), ((2, 13), false), ((2, 14), false), ((3, 1), false), ((3, 2), false), ((3, 3), true), ((3, 4), false), ((3, 5), false), ((3, 6), false), ((3, 7), false), ((3, 8), false), ((3, 9), false), ((3, 10), false), ((3, 11), false), ((3, 12), false), ((3, 13), false), ((3, 14), false), ((4, 1), false), ((4, 2), false), ((4, 3), false), ((4, 4), true), ((4, 5), false), ((4, 6), false), ((4, 7), false), ((4, 8), false), ((4, 9), false), ((4, 10), false), ((4, 11), false), ((4, 12), false), ((4, 13), false), ((4, 14), false), ((5, 1), false), ((5, 2), false), ((5, 3), false), ((5, 4), false), ((5, 5), true), ((5, 6), false), ((5, 7), false), ((5, 8), false), ((5, 9), false), ((5, 10), false), ((5, 11), false), ((5, 12), false), ((5, 13), false), ((5, 14), false), ((6, 1), false), ((6, 2), false), ((6, 3), false), ((6, 4), false), ((6, 5), false), ((6, 6), true), ((6, 7), false), ((6, 8), false), ((6, 9), false), ((6, 10), false), ((6, 11), false), ((6, 12), false), ((6, 13), false), ((6, 14), false), ((7, 1), false), ((7, 2), false), ((7, 3), false), ((7, 4), false), ((7, 5), false), ((7, 6), false), ((7, 7), true), ((7, 8), false), ((7, 9), false), ((7, 10), false), ((7, 11), false), ((7, 12), false), ((7, 13), false), ((7, 14), false), ((8, 1), false), ((8, 2), false), ((8, 3), false), ((8, 4), false), ((8, 5), false), ((8, 6), false), ((8, 7), false), ((8, 8), true), ((8, 9), false), ((8, 10), false), ((8, 11), false), ((8, 12), false), ((8, 13), false), ((8, 14), false), ((9, 1), false), ((9, 2), false), ((9, 3), false), ((9, 4), false), ((9, 5), false), ((9, 6), false), ((9, 7), false), ((9, 8), false), ((9, 9), true), ((9, 10), false), ((9, 11), false), ((9, 12), false), ((9, 13), false), ((9, 14), false), ((10, 1), false), ((10, 2), false), ((10, 3), false), ((10, 4), false), ((10, 5), false), ((10, 6), false), ((10, 7), false), ((10, 8), false), ((10, 9), false), ((10, 10), true), ((10, 11), false), ((10, 12), false), ((10, 13), false), ((10, 14), false), ((11, 1), false), ((11, 2), false), ((11, 3), false), ((11, 4), false), ((11, 5), false), ((11, 6), false), ((11, 7), false), ((11, 8), false), ((11, 9), false), ((11, 10), false), ((11, 11), true), ((11, 12), false), ((11, 13), false), ((11, 14), false), ((12, 1), false), ((12, 2), false), ((12, 3), false), ((12, 4), false), ((12, 5), false), ((12, 6), false), ((12, 7), false), ((12, 8), false), ((12, 9), false), ((12, 10), false), ((12, 11), false), ((12, 12), true), ((12, 13), false), ((12, 14), false), ((13, 1), false), ((13, 2), false), ((13, 3), false), ((13, 4), false), ((13, 5), false), ((13, 6), false), ((13, 7), false), ((13, 8), false), ((13, 9), false), ((13, 10), false), ((13, 11), false), ((13, 12), false), ((13, 13), true), ((13, 14), false), ((14, 1), false), ((14, 2), false), ((14, 3), false), ((14, 4), false), ((14, 5), false), ((14, 6), false), ((14, 7), false), ((14, 8), false), ((14, 9), false), ((14, 10), false), ((14, 11), false), ((14, 12), false), ((14, 13), false), ((14, 14), true)]
  cts := []
  file := "/claim/cut.py"
  hasX := true
  txs := ((0, Ty.c 0), true) :: ((0, Ty.c 1), false) :: ((0, Ty.c 2), false) :: ((0, Ty.c 3), false) :: ((0, Ty.c 4), false) :: ((0, Ty.c 5), false) :: ((0, Ty.c 6), false) :: ((0, Ty.c 7), false) :: ((0, Ty.c 8), false) :: ((0, Ty.c 9), false) :: ((0, Ty.c 10), false) :: ((0, Ty.c 11), false) :: ((0, Ty.c 12), false) :: ((0, Ty.c 13), false) :: ((0, Ty.c 14), false) :: ((0, Ty.b "ValueError"), true) :: ((1, Ty.c 0), true) :: ((1, Ty.c 1), true) :: ((1, Ty.c 2), false) :: ((1, Ty.c 3), false) :: ((1, Ty.c 4), false) :: ((1, Ty.c 5), false) :: ((1, Ty.c 6), false) :: ((1, Ty.c 7), false) :: ((1, Ty.c 8), false) :: ((1, Ty.c 9), false) :: ((1, Ty.c 10), false) :: ((1, Ty.c 11), false) :: ((1, Ty.c 12), false) :: ((1, Ty.c 13), false) :: ((1, Ty.c 14), false) :: ((1, Ty.b "ValueError"), true) :: ((2, Ty.c 0), true) :: ((2, Ty.c 1), false) :: ((2, Ty.c 2), true) :: ((2, Ty.c 3), false) :: ((2, Ty.c 4), false) :: ((2, Ty.c 5), false) :: ((2, Ty.c 6), false) :: ((2, Ty.c 7), false) :: ((2, Ty.c 8), false) :: ((2, Ty.c 9), false) :: ((2, Ty.c 10), false) :: ((2, Ty.c 11), false) :: ((2, Ty.c 12), false) :: ((2, Ty.c 13), false) :: ((2, Ty.c 14), false) :: ((2, Ty.b "ValueError"), true) :: ((3, Ty.c 0), true) :: ((3, Ty.c 1), false) :: ((3, Ty.c 2), false) :: ((3, Ty.c 3), true) :: ((3, Ty.c 4), false) :: ((3, Ty.c 5), false) :: ((3, Ty.c 6), false) :: ((3, Ty.c 7), false) :: ((3, Ty.c 8), false) :: ((3, Ty.c 9), false) :: ((3, Ty.c 10), false) :: ((3, Ty.c 11), false) :: ((3, Ty.c 12), false) :: ((3, Ty.c 13), false) :: ((3, Ty.c 14), false) :: ((3, Ty.b "ValueError"), true) :: ((4, Ty.c 0), true) :: ((4, Ty.c 1), false) :: ((4, Ty.c 2), false) :: ((4, Ty.c 3), false) :: ((4, Ty.c 4), true) :: ((4, Ty.c 5), false) :: ((4, Ty.c 6), false) :: ((4, Ty.c 7), false) :: ((4, Ty.c 8), false) :: ((4, Ty.c 9), false) :: ((4, Ty.c 10), false) :: ((4, Ty.c 11), false) :: ((4, Ty.c 12), false) :: ((4, Ty.c 13), false) :: ((4, Ty.c 14), false) :: ((4, Ty.b "ValueError"), true) :: ((5, Ty.c 0), true) :: ((5, Ty.c 1), false) :: ((5, Ty.c 2), false) :: ((5, Ty.c 3), false) :: ((5, Ty.c 4), false) :: ((5, Ty.c 5), true) :: ((5, Ty.c 6), false) :: ((5, Ty.c 7), false) :: ((5, Ty.c 8), false) :: ((5, Ty.c 9), false) :: ((5, Ty.c 10), false) :: ((5, Ty.c 11), false) :: ((5, Ty.c 12), false) :: ((5, Ty.c 13), false) :: ((5, Ty.c 14), false) :: ((5, Ty.b "ValueError"), true) :: ((6, Ty.c 0), true) :: ((6, Ty.c 1), false) :: ((6, Ty.c 2), false) :: ((6, Ty.c 3), false) :: ((6, Ty.c 4), false) :: ((6, Ty.c 5), false) :: ((6, Ty.c 6), true) :: ((6, Ty.c 7), false) :: ((6, Ty.c 8), false) :: ((6, Ty.c 9), false) :: ((6, Ty.c 10), false) :: ((6, Ty.c 11), false) :: ((6, Ty.c 12), false) :: ((6, Ty.c 13), false) :: ((6, Ty.c 14), false) :: ((6, Ty.b "ValueError"), true) :: ((7, Ty.c 0), true) :: ((7, Ty.c 1), false) :: ((7, Ty.c 2), false) :: ((7, Ty.c 3), false) :: ((7, Ty.c 4), false) :: ((7, Ty.c 5), false) :: ((7, Ty.c 6), false) :: ((7, Ty.c 7), true) :: ((7, Ty.c 8), false) :: ((7, Ty.c 9), false) :: ((7, Ty.c 10), false) :: ((7, Ty.c 11), false) :: ((7, Ty.c 12), false) :: ((7, Ty.c 13), false) :: ((7, Ty.c 14), false) :: ((7, Ty.b "ValueError"), true) :: ((8, Ty.c 0), true) :: ((8, Ty.c 1), false) :: ((8, Ty.c 2), false) :: ((8, Ty.c 3), false) :: ((8, Ty.c 4), false) :: ((8, Ty.c 5), false) :: ((8, Ty.c 6), false) :: ((8, Ty.c 7), false) :: ((8, Ty.c 8), true) :: ((8, Ty.c 9), false) :: ((8, Ty.c 10), false) :: ((8, Ty.c 11), false) :: ((8, Ty.c 12), false) :: ((8, Ty.c 13), false) :: ((8, Ty.c 14), false) :: ((8, Ty.b "ValueError"), true) :: ((9, Ty.c 0), true) :: ((9, Ty.c 1), false) :: ((9, Ty.c 2), false) :: ((9, Ty.c 3), false) :: ((9, Ty.c 4), false) :: ((9, Ty.c 5), false) :: ((9, Ty.c 6), false) :: ((9, Ty.c 7), false) :: ((9, Ty.c 8), false) :: ((9, Ty.c 9), true) :: ((9, Ty.c 10), false) :: ((9, Ty.c 11), false) :: ((9, Ty.c 12), false) :: ((9, Ty.c 13), false) :: ((9, Ty.c 14), false) :: ((9, Ty.b "ValueError"), true) :: ((10, Ty.c 0), true) :: ((10, Ty.c 1), false) :: ((10, Ty.c 2), false) :: ((10, Ty.c 3), false) :: ((10, Ty.c 4), false) :: ((10, Ty.c 5), false) :: ((10, Ty.c 6), false) :: ((10, Ty.c 7), false) :: ((10, Ty.c 8), false) :: ((10, Ty.c 9), false) :: ((10, Ty.c 10), true) :: ((10, Ty.c 11), false) :: ((10, Ty.c 12), false) :: ((10, Ty.c 13), false) :: ((10, Ty.c 14), false) :: ((10, Ty.b "ValueError"), true) :: ((11, Ty.c 0), true) :: ((11, Ty.c 1), false) :: ((11, Ty.c 2), false) :: ((11, Ty.c 3), false) :: ((11, Ty.c 4), false) :: ((11, Ty.c 5), false) :: ((11, Ty.c 6), false) :: ((11, Ty.c 7), false) :: ((11, Ty.c 8), false) :: ((11, Ty.c 9), false) :: ((11, Ty.c 10), false) :: ((11, Ty.c 11), true) :: ((11, Ty.c 12), false) :: ((11, Ty.c 13), false) :: ((11, Ty.c 14), false) :: ((11, Ty.b "ValueError"), true) :: ((12, Ty.c 0), true) :: ((12, Ty.c 1), false) :: ((12, Ty.c 2), false) :: ((12, Ty.c 3), false) :: ((12, Ty.c 4), false) :: ((12, Ty.c 5), false) :: ((12, Ty.c 6), false) :: ((12, Ty.c 7), false) :: ((12, Ty.c 8), false) :: ((12, Ty.c 9), false) :: ((12, Ty.c 10), false) :: ((12, Ty.c 11), false) :: ((12, Ty.c 12), true) :: ((12, Ty.c 13), false) :: ((12, Ty.c 14), false) :: ((12, Ty.b "ValueError"), true) :: ((13, Ty.c 0), true) :: ((13, Ty.c 1), false) :: ((13, Ty.c 2), false) :: ((13, Ty.c 3), false) :: ((13, Ty.c 4), false) :: ((13, Ty.c 5), false) :: ((13, Ty.c 6), false) :: ((13, Ty.c 7), false) :: ((13, Ty.c 8), false) :: ((13, Ty.c 9), false) :: ((13, Ty.c 10), false) :: ((13, Ty.c 11), false) :: ((13, Ty.c 12), false) :: ((13, Ty.c 13), true) :: ((13, Ty.c 14), false) :: ((13, Ty.b "ValueError"), true) :: ((14, Ty.c 0), true) :: ((14, Ty.c 1), false) :: ((14, Ty.c 2), false) :: ((14, Ty.c 3), false) :: ((14, Ty.c 4), false) :: ((14, Ty.c 5), false) :: ((14, Ty.c 6), false) :: ((14, Ty.c 7), false) :: ((14, Ty.c 8), false) :: ((14, Ty.c 9), false) :: ((14, Ty.c 10), false) :: ((14, Ty.c 11), false) :: ((14, Ty.c 12), false) :: ((14, Ty.c 13), false) :: ((14, Ty.c 14), true) :: ((14, Ty.b "ValueError"), true) :: []
  xfs := (1, ("name" : Str)) :: (2, ("kind" : Str)) :: (3, ("word" : Str)) :: (4, ("number" : Str)) :: (5, ("place" : Str)) :: (6, ("place" : Str)) :: (7, ("line" : Str)) :: (8, ("kind" : Str)) :: (9, ("name" : Str)) :: (10, ("kind" : Str)) :: (11, ("index" : Str)) :: (12, ("name" : Str)) :: []
  xts := (("LotError" : Str), 0) :: []
theorem xtx : ∀ d ∈ D.xds, d.txt = true := fun d hd => allP (show D.xds.all XD.txt = true by decide +kernel) hd
theorem xb0 : x0.Bnd := ⟨fun _ _ _ _ _ _ _ us hl => match us, hl with | [_, _], _ => rfl, fun _ _ _ _ _ _ _ u v => rfl⟩
theorem xb1 : x1.Bnd := ⟨fun _ _ _ _ _ _ _ us hl => match us, hl with | [_, _], _ => rfl, fun _ _ _ _ _ _ _ u v => rfl⟩
theorem xb2 : x2.Bnd := ⟨fun _ _ _ _ _ _ _ us hl => match us, hl with | [_, _], _ => rfl, fun _ _ _ _ _ _ _ u v => rfl⟩
theorem xb3 : x3.Bnd := ⟨fun _ _ _ _ _ _ _ us hl => match us, hl with | [_, _], _ => rfl, fun _ _ _ _ _ _ _ u v => rfl⟩
theorem xb4 : x4.Bnd := ⟨fun _ _ _ _ _ _ _ us hl => match us, hl with | [_, _], _ => rfl, fun _ _ _ _ _ _ _ u v => rfl⟩
theorem xb5 : x5.Bnd := ⟨fun _ _ _ _ _ _ _ us hl => match us, hl with | [_, _], _ => rfl, fun _ _ _ _ _ _ _ u v => rfl⟩
theorem xb6 : x6.Bnd := ⟨fun _ _ _ _ _ _ _ us hl => match us, hl with | [_, _], _ => rfl, fun _ _ _ _ _ _ _ u v => rfl⟩
theorem xb7 : x7.Bnd := ⟨fun _ _ _ _ _ _ _ us hl => match us, hl with | [_, _], _ => rfl, fun _ _ _ _ _ _ _ u v => rfl⟩
theorem xb8 : x8.Bnd := ⟨fun _ _ _ _ _ _ _ us hl => match us, hl with | [_, _], _ => rfl, fun _ _ _ _ _ _ _ u v => rfl⟩
theorem xb9 : x9.Bnd := ⟨fun _ _ _ _ _ _ _ us hl => match us, hl with | [_, _], _ => rfl, fun _ _ _ _ _ _ _ u v => rfl⟩
theorem xb10 : x10.Bnd := ⟨fun _ _ _ _ _ _ _ us hl => match us, hl with | [_, _], _ => rfl, fun _ _ _ _ _ _ _ u v => rfl⟩
theorem xb11 : x11.Bnd := ⟨fun _ _ _ _ _ _ _ us hl => match us, hl with | [_, _], _ => rfl, fun _ _ _ _ _ _ _ u v => rfl⟩
theorem xb12 : x12.Bnd := fun _ _ _ _ _ _ _ us hl => match us, hl with | [_], _ => rfl
theorem xb13 : x13.Bnd := fun _ _ _ _ _ _ _ us hl => match us, hl with | [_], _ => rfl
theorem xbs : ∀ d ∈ D.xds, d.Bnd := (fa_cons xb0 (fa_cons xb1 (fa_cons xb2 (fa_cons xb3 (fa_cons xb4 (fa_cons xb5 (fa_cons xb6 (fa_cons xb7 (fa_cons xb8 (fa_cons xb9 (fa_cons xb10 (fa_cons xb11 (fa_cons xb12 (fa_cons xb13 fa_nil))))))))))))))
theorem scs : ∀ f ∈ D.fns, f.scB = true := fun f hf => allP (show D.fns.all FD.scB = true by decide +kernel) hf
theorem lens : ∀ f ∈ D.fns, f.dfl.length ≤ f.ps.length := (fa_cons (by decide) (fa_cons (by decide) (fa_cons (by decide) (fa_cons (by decide) (fa_cons (by decide) fa_nil)))))
theorem b0 : f0.Bnd := fun _ _ _ _ _ _ us hl => match us, hl with | [_], _ => rfl
theorem b1 : f1.Bnd := fun _ _ _ _ _ _ us hl => match us, hl with | [_, _], _ => rfl
theorem b2 : f2.Bnd := fun _ _ _ _ _ _ us hl => match us, hl with | [_, _], _ => rfl
theorem b3 : f3.Bnd := fun _ _ _ _ _ _ us hl => match us, hl with | [_], _ => rfl
theorem b4 : f4.Bnd := fun _ _ _ _ _ _ us hl => match us, hl with | [_], _ => rfl
theorem bnds : ∀ f ∈ D.fns, f.Bnd := (fa_cons b0 (fa_cons b1 (fa_cons b2 (fa_cons b3 (fa_cons b4 fa_nil)))))
abbrev R : PySem.W.OpenRow := PySem.W.OpenLaw.row PySem.Challenge.rw_statementlots_k21_errors_made
def names : List PySem.Str := (["__name__", "LotError", "BadTable", "BadStatement", "BadForm", "BadNumber", "BadTrigger", "BadBook", "BadText", "Overlap", "Unknown", "BadPicks", "BadClass", "Refused", "Endless", "NoDeed", "_law_source", "_law_draw", "_law_pick", "_law_kinds"] : List PySem.Str)
noncomputable abbrev EF (w : World) (os : OsState) : Option PySem.W.SharedT := HandSHeadRun.endF (HandSHeadRun.stepQ (HandSHeadRun.denQ HandSHeadRun.tabQ) R.prog w) 20000 R.prog w os
theorem and4 {X : Option PySem.W.SharedT} {f g h k : PySem.W.SharedT → Bool} (a : X.map f = some true) (b : X.map g = some true) (c : X.map h = some true) (e : X.map k = some true) : X.map (fun s => (f s && (g s && h s)) && k s) = some true := by
  cases X with
  | none => cases a
  | some s =>
    simp only [Option.map_some, Option.some.injEq] at a b c e ⊢
    rw [a, b, c, e]; rfl
theorem pair {X : Option PySem.W.SharedT} {A B : Type} {f : PySem.W.SharedT → A} {g : PySem.W.SharedT → B} {x : A} {y : B} (a : X.map f = some x) (b : X.map g = some y) : X.map (fun s => (f s, g s)) = some (x, y) := by
  cases X with
  | none => cases a
  | some s =>
    simp only [Option.map_some, Option.some.injEq] at a b ⊢
    rw [a, b]
theorem cat {X : Option PySem.W.SharedT} {A : Type} {f g : PySem.W.SharedT → List A} {x y : List A} (a : X.map f = some x) (b : X.map g = some y) : X.map (fun s => f s ++ g s) = some (x ++ y) := by
  cases X with
  | none => cases a
  | some s =>
    simp only [Option.map_some, Option.some.injEq] at a b ⊢
    rw [a, b]
theorem run1 (w : World) (os : OsState) : (EF w os).map (fun s => (HandSHeadRun.looksF R.prog (PySem.W.boot_heap w.params) s.abs, HandSHeadRun.seenQ (PySem.W.view R.prog [21]) names (importedModules R.prog.main.body) (fun s => PySem.W.xlAt (PySem.W.view R.prog [21]) [] s && PySem.W.recOk R.toRowW.records s) s.abs)) = some ((true, PySem.W.openGood (PySem.W.view R.prog [21]) names)) := by kernel_rfl
theorem run2 (w : World) (os : OsState) : (EF w os).map (fun s => D.ok (Ks s)) = some (true) := by kernel_rfl
theorem run3a (w : World) (os : OsState) : (EF w os).map (fun s => (D.fns.take 2).all fun f => okAt (Ks s) (f.ad (Ks s)) f.d) = some (true) := by kernel_rfl
theorem run3b (w : World) (os : OsState) : (EF w os).map (fun s => ((D.fns.drop 2).take 2).all fun f => okAt (Ks s) (f.ad (Ks s)) f.d) = some (true) := by kernel_rfl
theorem run3c (w : World) (os : OsState) : (EF w os).map (fun s => ((D.fns.drop 2).drop 2).all fun f => okAt (Ks s) (f.ad (Ks s)) f.d) = some (true) := by kernel_rfl
theorem run3d (w : World) (os : OsState) : (EF w os).map (fun s => D.ok2 (Ks s)) = some (true) := by kernel_rfl
theorem run4a (w : World) (os : OsState) : (EF w os).map (fun s => (D.fns.take 2).map fun f => fnAt (Ks s) (f.ad (Ks s))) = some ((D.fns.take 2).map (fun f => f.d.val)) := by kernel_rfl
theorem run4b (w : World) (os : OsState) : (EF w os).map (fun s => ((D.fns.drop 2).take 2).map fun f => fnAt (Ks s) (f.ad (Ks s))) = some (((D.fns.drop 2).take 2).map (fun f => f.d.val)) := by kernel_rfl
theorem run4c (w : World) (os : OsState) : (EF w os).map (fun s => ((D.fns.drop 2).drop 2).map fun f => fnAt (Ks s) (f.ad (Ks s))) = some (((D.fns.drop 2).drop 2).map (fun f => f.d.val)) := by kernel_rfl
theorem run4d (w : World) (os : OsState) : (EF w os).map (fun s => D.xds.map fun d => d.obs (Ks s)) = some (D.xds.map XD.val) := by kernel_rfl
theorem cut3 {A : Type} (l : List A) : l.take 2 ++ ((l.drop 2).take 2 ++ (l.drop 2).drop 2) = l := by rw [List.take_append_drop, List.take_append_drop]
theorem run3 (w : World) (os : OsState) : (EF w os).map (fun s => (D.fns.all fun f => okAt (Ks s) (f.ad (Ks s)) f.d) && D.ok2 (Ks s)) = some (true) := by
  have z := and4 (run3a w os) (run3b w os) (run3c w os) (run3d w os)
  have e : ∀ s : PySem.W.SharedT, (D.fns.all fun f => okAt (Ks s) (f.ad (Ks s)) f.d) = ((D.fns.take 2).all (fun f => okAt (Ks s) (f.ad (Ks s)) f.d) && (((D.fns.drop 2).take 2).all (fun f => okAt (Ks s) (f.ad (Ks s)) f.d) && ((D.fns.drop 2).drop 2).all (fun f => okAt (Ks s) (f.ad (Ks s)) f.d))) := fun s => by rw [← List.all_append, ← List.all_append, cut3]
  simp only [e]
  exact z
theorem run4 (w : World) (os : OsState) : (EF w os).map (fun s => (D.fns.map (fun f => fnAt (Ks s) (f.ad (Ks s))), D.xds.map fun d => d.obs (Ks s))) = some ((D.fns.map (fun f => f.d.val), D.xds.map XD.val)) := by
  refine pair ?_ (run4d w os)
  have z := cat (run4a w os) (cat (run4b w os) (run4c w os))
  simp only [← List.map_append, cut3] at z
  exact z
theorem run (w : World) : HandSHeadRun.RunEq R (PySem.W.view R.prog [21]) (D.hook 6) (D.ob 6) 20000 names w := run_parts (run1 w) (run2 w) (run3 w) (run4 w)
end MPL
end
section
set_option autoImplicit false
set_option linter.all false
namespace MP
open PySem L2
def Ok {α : Type} (r : Rs α) (Q : α → Heap → Prop) : Prop := match r with
  | .ok a h => Q a h
  | _ => False
theorem Ok.imp {α : Type} {r : Rs α} {Q Q' : α → Heap → Prop} (h : Ok r Q) (i : ∀ a h, Q a h → Q' a h) : Ok r Q' := by
  cases r with
  | ok a h' => exact i a h' h
  | ex c fs h' => exact h.elim
  | bad => exact h.elim
theorem Ok.ex {α : Type} {r : Rs α} {Q : α → Heap → Prop} (h : Ok r Q) : ∃ a h', r = .ok a h' ∧ Q a h' := by
  cases r with
  | ok a h' => exact ⟨a, h', rfl, h⟩
  | ex c fs h' => exact h.elim
  | bad => exact h.elim
theorem ok_ok {α : Type} {a : α} {h : Heap} {Q : α → Heap → Prop} : Ok (.ok a h) Q = Q a h := rfl
theorem ok_bind {α β : Type} {r : Rs α} {f : α → Heap → Rs β} {Q : β → Heap → Prop} : Ok (r.bind f) Q = Ok r fun a h => Ok (f a h) Q := by cases r <;> rfl
theorem ok_opt {α : Type} {a : α} {h : Heap} {Q : α → Heap → Prop} : Ok (opt (some a) h) Q = Q a h := rfl
def OkS (r : SR) (nx : Env → Heap → Prop) (rt : Val → Heap → Prop) (bk ct : Env → Heap → Prop) : Prop := match r with
  | .nx e h => nx e h
  | .rt v h => rt v h
  | .bk e h => bk e h
  | .ct e h => ct e h
  | _ => False
theorem okS_lift {α : Type} {r : Rs α} {env : Env} {k : α → Heap → SR} {nx : Env → Heap → Prop} {rt : Val → Heap → Prop} {bk ct : Env → Heap → Prop} : OkS (liftS r env k) nx rt bk ct = Ok r fun a h => OkS (k a h) nx rt bk ct := by cases r <;> rfl
section
variable {env : Env} {h : Heap} {Q : Val → Heap → Prop} {QB : Bool → Heap → Prop} {nx : Env → Heap → Prop} {rt : Val → Heap → Prop} {bk ct : Env → Heap → Prop}
theorem k_seq {f1 f2 : Fs} : OkS (sSeq f1 f2 env h) nx rt bk ct = OkS (f1 env h) (fun e h => OkS (f2 e h) nx rt bk ct) rt bk ct := by
  show OkS ((f1 env h).andThen f2) nx rt bk ct = _
  cases f1 env h <;> rfl
theorem k_nx : OkS (sNx env h) nx rt bk ct = nx env h := rfl
theorem k_ret {f : Fe} : OkS (sRet f env h) nx rt bk ct = Ok (f env h) rt := by
  show OkS (liftS (f env h) env fun v h1 => .rt v h1) nx rt bk ct = _
  rw [okS_lift]; rfl
theorem k_if {c : Ft} {a b : Fs} : OkS (sIf c a b env h) nx rt bk ct = Ok (c env h) fun k h1 => if k then OkS (a env h1) nx rt bk ct else OkS (b env h1) nx rt bk ct := by
  show OkS (liftS (c env h) env fun k h1 => if k then a env h1 else b env h1) nx rt bk ct = _
  rw [okS_lift]
  cases c env h with
  | ok k h1 => cases k <;> rfl
  | _ => rfl
theorem k_asg {f : Fe} {i : Nat} : OkS (sAsg f (gNm i) env h) nx rt bk ct = Ok (f env h) fun v h1 => nx (env.set i (some v)) h1 := by
  show OkS (liftS (f env h) env fun v h1 => liftS (gNm i v env h1) env fun env2 h2 => .nx env2 h2) nx rt bk ct = _
  rw [okS_lift]; rfl
theorem k_asg2 {f : Fe} {i j : Nat} : OkS (sAsg f (gTp 2 (gsCons (gNm i) (gsCons (gNm j) gsNil))) env h) nx rt bk ct = Ok (f env h) fun v h1 => ∃ x y, v = .tup [x, y] ∧ nx ((env.set i (some x)).set j (some y)) h1 := by
  show OkS (liftS (f env h) env fun v h1 => liftS (gTp 2 (gsCons (gNm i) (gsCons (gNm j) gsNil)) v env h1) env fun env2 h2 => .nx env2 h2) nx rt bk ct = _
  rw [okS_lift]
  cases f env h with
  | ok v h1 =>
    show OkS (liftS (gTp 2 (gsCons (gNm i) (gsCons (gNm j) gsNil)) v env h1) env fun env2 h2 => .nx env2 h2) nx rt bk ct = ∃ x y, v = .tup [x, y] ∧ _
    rw [okS_lift]
    apply propext
    constructor
    · intro q
      match v, q with
      | .tup [x, y], q => exact ⟨x, y, rfl, q⟩
      | .tup [], q => exact q.elim
      | .tup [_], q => exact q.elim
      | .tup (_ :: _ :: _ :: r), q =>
        exfalso
        unfold gTp at q
        simp at q
        exact q
      | .non, q => exact q.elim
      | .bl _, q => exact q.elim
      | .int _, q => exact q.elim
      | .str _, q => exact q.elim
      | .ref _, q => exact q.elim
      | .cls _, q => exact q.elim
      | .ty _, q => exact q.elim
      | .scr _, q => exact q.elim
    · rintro ⟨x, y, rfl, q⟩
      exact q
  | _ => rfl
theorem k_var {i : Nat} : Ok (xVar i env h) Q = Ok (opt (env[i]?.join) h) Q := rfl
theorem k_lit {v : Val} : Ok (xLit v env h) Q = Q v h := rfl
theorem k_bin {fo : Val → Val → Heap → Rs Val} {fa fb : Fe} : Ok (xBin fo fa fb env h) Q = Ok (fa env h) fun x h1 => Ok (fb env h1) fun y h2 => Ok (fo x y h2) Q := by
  show Ok ((fa env h).bind _) Q = _
  simp only [ok_bind]
theorem k_bf {fs : Fa} {fo : List Val → Heap → Rs Val} : Ok (xBf fs fo env h) Q = Ok (fs env h) fun vs h1 => Ok (fo vs h1) Q := by
  show Ok ((fs env h).bind _) Q = _
  simp only [ok_bind]
theorem k_nil {Q : List Val → Heap → Prop} : Ok (aNil env h) Q = Q [] h := rfl
theorem k_cons {f : Fe} {fs : Fa} {Q : List Val → Heap → Prop} : Ok (eCons f fs env h) Q = Ok (f env h) fun v h1 => Ok (fs env h1) fun vs h2 => Q (v :: vs) h2 := by
  show Ok ((f env h).bind _) Q = _
  simp only [ok_bind, ok_ok]
theorem k_f1 {f : Val → Heap → Rs Val} {v : Val} : Ok (f1 f [v] h) Q = Ok (f v h) Q := rfl
theorem k_tup {fs : Fa} : Ok (eTup fs env h) Q = Ok (fs env h) fun vs h1 => (vs.length ≤ lim ∧ vs ≠ []) ∧ Q (.tup vs) h1 := by
  show Ok ((fs env h).bind _) Q = _
  rw [ok_bind]
  cases fs env h with
  | ok vs h1 =>
    show Ok (if _ then _ else _) Q = _
    by_cases hc : vs.length ≤ lim ∧ vs ≠ []
    · rw [if_pos hc]; simp only [ok_ok, hc, true_and]; simp [hc]
    · rw [if_neg hc]; apply propext; exact ⟨fun q => q.elim, fun q => absurd q.1 hc⟩
  | _ => rfl
theorem k_lst {fs : Fa} : Ok (eLst fs env h) Q = Ok (fs env h) fun vs h1 => vs.length ≤ lim ∧ Q (.ref h1.length) (h1 ++ [(false, .lst vs)]) := by
  show Ok ((fs env h).bind _) Q = _
  rw [ok_bind]
  cases fs env h with
  | ok vs h1 =>
    show Ok (if _ then _ else _) Q = _
    by_cases hc : vs.length ≤ lim
    · rw [if_pos hc]; apply propext; exact ⟨fun q => ⟨hc, q⟩, fun q => q.2⟩
    · rw [if_neg hc]; apply propext; exact ⟨fun q => q.elim, fun q => absurd q.1 hc⟩
  | _ => rfl
theorem k_call {np : Nat} {c : List Val → Heap → Rs Val} {dv : List Val} {fs : Fa} : Ok (eCall np c dv fs env h) Q = Ok (fs env h) fun vs h1 => (vs ++ dv).length = np ∧ Ok (c (vs ++ dv) h1) Q := by
  show Ok ((fs env h).bind _) Q = _
  rw [ok_bind]
  cases fs env h with
  | ok vs h1 =>
    show Ok (if _ then _ else _) Q = _
    by_cases hc : (vs ++ dv).length = np
    · rw [if_pos hc]; apply propext; exact ⟨fun q => ⟨hc, q⟩, fun q => q.2⟩
    · rw [if_neg hc]; apply propext; exact ⟨fun q => q.elim, fun q => absurd q.1 hc⟩
  | _ => rfl
end
end MP
end
section
set_option autoImplicit false
set_option linter.all false
namespace MP
open PySem L2
theorem ok_congr {α β : Type} {r : Rs α} {f : α → Heap → Rs β} {Q : β → Heap → Prop} {R : α → Heap → Prop} (h : ∀ a h, Ok (f a h) Q = R a h) : Ok (r.bind f) Q = Ok r R := by
  rw [ok_bind]
  congr 1
  funext a h'
  exact h a h'
section
variable {env : Env} {h : Heap} {Q : Val → Heap → Prop} {QB : Bool → Heap → Prop} {nx : Env → Heap → Prop} {rt : Val → Heap → Prop} {bk ct : Env → Heap → Prop}
def Bl (v : Val) (P : Bool → Prop) : Prop := match v with
  | .bl b => P b
  | _ => False
theorem ok_eBl {r : Rs Val} : Ok (eBl r) QB = Ok r fun v h1 => Bl v fun b => QB b h1 := by
  refine ok_congr fun v h1 => ?_
  cases v <;> rfl
theorem k_tcmp {fo : Val → Val → Heap → Rs Val} {fa fb : Fe} : Ok (tCmp fo fa fb env h) QB = Ok (fa env h) fun x h1 => Ok (fb env h1) fun y h2 => Ok (fo x y h2) fun v h3 => Bl v fun b => QB b h3 := by
  show Ok (eBl _) QB = _
  rw [ok_eBl]
  simp only [ok_bind]
theorem k_tand {fa fb : Ft} : Ok (tAndF fa fb env h) QB = Ok (fa env h) fun b h1 => if b then Ok (fb env h1) QB else QB false h1 := by
  refine ok_congr fun b h1 => ?_
  cases b <;> rfl
/-- an instance -/
def In (v : Val) (h : Heap) (P : Nat → List (Str × Val) → Prop) : Prop := match insOf v h with
  | some (c, fl) => P c fl
  | none => False
/-- a loop by an invariant -/
theorem for_inv {f : Val → Env → Heap → SR} {bk' ct' : Env → Heap → Prop} (I : List Val → Env → Heap → Prop) : ∀ (xs : List Val) (env : Env) (h : Heap), I xs env h →
    (∀ v r env h, I (v :: r) env h → OkS (f v env h) (fun e h => I r e h) rt (fun e h => nx e h) fun e h => I r e h) → (∀ env h, I [] env h → nx env h) → OkS (forGo f xs env h) nx rt bk' ct'
  | [], env, h, i, _, fin => fin env h i
  | v :: r, env, h, i, st, fin => by
    have q := st v r env h i
    unfold forGo
    cases z : f v env h with
    | nx e h' => rw [z] at q; exact for_inv I r e h' q st fin
    | ct e h' => rw [z] at q; exact for_inv I r e h' q st fin
    | bk e h' => rw [z] at q; exact q
    | rt w h' => rw [z] at q; exact q
    | ex e c fs h' => rw [z] at q; exact q.elim
    | bad => rw [z] at q; exact q.elim
theorem okS_unl {h0 : Heap} {lk : Option Nat} {r : SR} : OkS (unlS h0 lk r) nx rt bk ct = OkS r (fun e h => nx e (unlockH h0 h lk)) (fun v h => rt v (unlockH h0 h lk)) (fun e h => bk e (unlockH h0 h lk)) fun e h => ct e (unlockH h0 h lk) := by cases r <;> rfl
theorem k_for {fi : Fi} {ft : Fg} {fb : Fs} : OkS (sFor fi ft fb env h) nx rt bk ct = Ok (fi env h) fun src h1 => OkS (forGo (fun v env h => liftS (ft v env h) env fb) src.xs env (lockH h1 src.lk)) (fun e h => nx e (unlockH h1 h src.lk)) (fun v h => rt v (unlockH h1 h src.lk)) (fun e h => bk e (unlockH h1 h src.lk)) fun e h => ct e (unlockH h1 h src.lk) := by
  show OkS (liftS (fi env h) env _) nx rt bk ct = _
  rw [okS_lift]
  simp only [okS_unl]
theorem k_ival {f : Fe} {QS : Src → Heap → Prop} : Ok (iVal f env h) QS = Ok (f env h) fun v h1 => Ok (srcV v h1) QS := ok_congr fun v h1 => rfl
end
end MP
end
section
set_option autoImplicit false
set_option linter.all false
namespace MP
open PySem L2
section
variable {env : Env} {h : Heap} {Q : Val → Heap → Prop} {nx : Env → Heap → Prop} {rt : Val → Heap → Prop} {bk ct : Env → Heap → Prop}
theorem k_sub {fo fi fv : Fe} : OkS (sSubF fo fi fv env h) nx rt bk ct = Ok (fv env h) fun v h1 => Ok (fo env h1) fun o h2 => Ok (fi env h2) fun i h3 => ∃ h4, putAt o i v h3 = some h4 ∧ nx env h4 := by
  unfold sSubF
  simp only [okS_lift]
  congr 1; funext v h1; congr 1; funext o h2; congr 1; funext i h3
  cases putAt o i v h3 <;> simp [OkS]
end
theorem rd_of {h : Heap} {a : Nat} {b : Bool} {c : B} (e : h[a]? = some (b, c)) : rd h a = some c := by unfold rd; rw [e]; rfl
theorem set_at {h : Heap} {a : Nat} {c c' : Cell} (e : h[a]? = some c) : (h.set a c')[a]? = some c' := List.getElem?_set_self (lt_of_get e)
def drawS (tb : Tb) (cf : Cf) : Fs :=
  sSeq (sSubF (xVar 0) (xLit (.int 2)) (xBin (ownBinT (obF tb cf .Add) (tb.obt .Add) (bop .add)) (xBin ixV (xVar 0) (xLit (.int 2))) (xLit (.int 1)))) (sSeq (sIf (tCmp (cmpF tb cf .Gt) (xBin ixV (xVar 0) (xLit (.int 0))) (xLit (.int 1))) (sSeq (sAsg (xBin (bop .mod) (xBf (eCons (xBin ixV (xVar 0) (xLit (.int 0))) (aNil)) (MP.f1 intV)) (xVar 1)) (gNm 2)) (sSeq (sSubF (xVar 0) (xLit (.int 0)) (xBin (bop .fdiv) (xBin ixV (xVar 0) (xLit (.int 0))) (xVar 1))) (sSeq (sRet (xVar 2)) (sNx)))) (sNx)) (sSeq (sAsg (xBin (bop .mod) (xBin (bop .pow) (xBin (ownBinT (obF tb cf .Add) (tb.obt .Add) (bop .add)) (xBin ixV (xVar 0) (xLit (.int 1))) (xBin (ownBinT (obF tb cf .Mult) (tb.obt .Mult) mulW) (xLit (.int 7919)) (xBin ixV (xVar 0) (xLit (.int 2))))) (xLit (.int 5))) (xLit (.int 2147483629))) (gNm 3)) (sSeq (sRet (xBin (bop .mod) (xBin (bop .mod) (xBin (bop .pow) (xBin (ownBinT (obF tb cf .Add) (tb.obt .Add) (bop .add)) (xBin (ownBinT (obF tb cf .Add) (tb.obt .Add) (bop .add)) (xBin (ownBinT (obF tb cf .Mult) (tb.obt .Mult) mulW) (xVar 3) (xLit (.int 48271))) (xBin (ownBinT (obF tb cf .Mult) (tb.obt .Mult) mulW) (xBin (ownBinT (obF tb cf .Mult) (tb.obt .Mult) mulW) (xLit (.int 16807)) (xBin ixV (xVar 0) (xLit (.int 2)))) (xBin ixV (xVar 0) (xLit (.int 2))))) (xLit (.int 11))) (xLit (.int 3))) (xLit (.int 1000000007))) (xVar 1))) (sNx))))
theorem own_int {ob : Nat → Option MI} {ot : Nat → Bool} {base : Val → Val → Heap → Rs Val} {i : Int} {y : Val} {h : Heap} : ownBinT ob ot base (.int i) y h = base (.int i) y h := by cases y <;> rfl
theorem log2_lt {n : Nat} (h : n < 2 ^ 400) : n.log2 < 400 := PySem.Flt.log2_lt_of (by decide) h
theorem m_mul {i j : Int} {h : Heap} (hi : i.natAbs < 2 ^ 400) (hj : j.natAbs < 2 ^ 400) : mulW (.int i) (.int j) h = .ok (.int (i * j)) h := by
  show (if decide (i.natAbs.log2 + j.natAbs.log2 < 1000000) = true then _ else _) = _
  have := log2_lt hi
  have := log2_lt hj
  rw [if_pos (decide_eq_true (by omega))]
theorem small {i : Int} (h1 : -18446744073709551616 < i) (h2 : i < 18446744073709551616) : i.natAbs < 2 ^ 400 := Nat.lt_of_lt_of_le (show i.natAbs < 18446744073709551616 by omega) (by decide)
def srcL (g sd c : Int) : List Val := [.int g, .int sd, .int c]
section
variable {h : Heap} {s : Nat} {b : Bool} {g sd c v : Int}
theorem src0 (e : h[s]? = some (b, .lst (srcL g sd c))) : ixV (.ref s) (.int 0) h = .ok (.int g) h := by
  unfold ixV; dsimp only; rw [rd_of e]; rfl
theorem src1 (e : h[s]? = some (b, .lst (srcL g sd c))) : ixV (.ref s) (.int 1) h = .ok (.int sd) h := by
  unfold ixV; dsimp only; rw [rd_of e]; rfl
theorem src2 (e : h[s]? = some (b, .lst (srcL g sd c))) : ixV (.ref s) (.int 2) h = .ok (.int c) h := by
  unfold ixV; dsimp only; rw [rd_of e]; rfl
theorem srcP2 (e : h[s]? = some (false, .lst (srcL g sd c))) : putAt (.ref s) (.int 2) (.int v) h = some (h.set s (false, .lst (srcL g sd v))) := by
  unfold putAt; dsimp only; rw [e]; rfl
theorem srcP0 (e : h[s]? = some (false, .lst (srcL g sd c))) : putAt (.ref s) (.int 0) (.int v) h = some (h.set s (false, .lst (srcL v sd c))) := by
  unfold putAt; dsimp only; rw [e]; rfl
end
theorem b_add {i j : Int} {h : Heap} : bop .add (.int i) (.int j) h = .ok (.int (i + j)) h := rfl
theorem b_mod {i j : Int} {h : Heap} (k : 0 < j) : bop .mod (.int i) (.int j) h = .ok (.int (i % j)) h := by
  show (if decide (0 < j) = true then _ else _) = _
  rw [if_pos (decide_eq_true k)]
theorem b_fdiv {i j : Int} {h : Heap} (k : 0 < j) (k2 : j < 1073741824) : bop .fdiv (.int i) (.int j) h = .ok (.int (i / j)) h := by
  show (if (decide (0 < j) && decide (j < 1073741824)) = true then _ else _) = _
  rw [if_pos (by rw [decide_eq_true k, decide_eq_true k2]; rfl)]
theorem b_pow {i j : Int} {h : Heap} (k : powOk i j = true) : bop .pow (.int i) (.int j) h = .ok (.int (i ^ j.toNat)) h := by
  show (if powOk i j = true then _ else _) = _
  rw [if_pos k]
theorem powOk_of {i j : Int} (h1 : 0 ≤ i) (h2 : i < 18446744073709551616) (h3 : 0 ≤ j) (h4 : j ≤ 1000000) : powOk i j = true := by
  unfold powOk
  rw [decide_eq_true h3, decide_eq_true h4, decide_eq_true (by omega)]
  rfl
theorem c_gt {i j : Int} {h : Heap} {tb : Tb} {cf : Cf} : cmpF tb cf .Gt (.int i) (.int j) h = .ok (.bl (decide (j < i))) h := rfl
theorem c_ge {i j : Int} {h : Heap} {tb : Tb} {cf : Cf} : cmpF tb cf .GtE (.int i) (.int j) h = .ok (.bl (decide (j ≤ i))) h := rfl
theorem c_eqI {i j : Int} {h : Heap} {tb : Tb} {cf : Cf} : cmpF tb cf .Eq (.int i) (.int j) h = .ok (.bl (i == j)) h := by
  show Rs.ok (Val.bl ((i == j) != false)) h = _
  simp
theorem bl_bl {b : Bool} {P : Bool → Prop} : Bl (.bl b) P = P b := rfl
theorem draw_ok {tb : Tb} {cf : Cf} {h : Heap} {s : Nat} {g sd c m : Int} (hs : h[s]? = some (false, .lst (srcL g sd c))) (hm : 0 < m) (hm2 : m < 1073741824) (h1 : 0 ≤ sd) (h2 : sd < 2147483647) (h3 : 0 ≤ c) (h4 : c < 100000) {nx bk ct : Env → Heap → Prop} :
    OkS (drawS tb cf [some (.ref s), some (.int m), none, none] h) nx (fun v h' => ∃ d g', v = .int d ∧ 0 ≤ d ∧ d < m ∧ h' = h.set s (false, .lst (srcL g' sd (c + 1)))) bk ct := by
  have e1 : (h.set s (false, .lst (srcL g sd (c + 1))))[s]? = some (false, .lst (srcL g sd (c + 1))) := set_at hs
  unfold drawS
  simp -implicitDefEqProofs only [k_seq, k_sub, k_bin, k_var, k_lit, List.getElem?_cons_zero, List.getElem?_cons_succ, Option.join_some, ok_opt, src2 hs, ok_ok, own_int, b_add, srcP2 hs, Option.some.injEq, exists_eq_left']
  simp -implicitDefEqProofs only [k_if, k_tcmp, k_bin, k_var, k_lit, List.getElem?_cons_zero, List.getElem?_cons_succ, Option.join_some, ok_opt, ok_ok, c_gt, bl_bl]
  rw [src0 e1]
  simp -implicitDefEqProofs only [ok_ok, c_gt, bl_bl]
  by_cases hg : (1 : Int) < g
  · rw [decide_eq_true hg, if_pos rfl]
    simp -implicitDefEqProofs only [k_seq, k_asg, k_bin, k_bf, k_cons, k_nil, k_f1, k_var, k_lit, List.getElem?_cons_zero, List.getElem?_cons_succ, Option.join_some, ok_opt, src0 e1, ok_ok, intV, b_mod hm, k_sub, k_ret, List.set_cons_succ, List.set_cons_zero, b_fdiv hm hm2, srcP0 e1, Option.some.injEq, exists_eq_left']
    exact ⟨_, _, rfl, Int.emod_nonneg _ (by omega), Int.emod_lt_of_pos _ hm, by rw [List.set_set]⟩
  · rw [decide_eq_false hg]
    simp -implicitDefEqProofs only [Bool.false_eq_true, if_false, k_nx, k_seq, k_asg, k_bin, k_var, k_lit, List.getElem?_cons_zero, List.getElem?_cons_succ, Option.join_some, ok_opt, src1 e1, src2 e1, ok_ok, own_int, b_add, m_mul (i := 7919) (j := c + 1) (small (by omega) (by omega)) (small (by omega) (by omega)), b_pow (powOk_of (i := sd + 7919 * (c + 1)) (j := 5) (by omega) (by omega) (by omega) (by omega)), b_mod (i := (sd + 7919 * (c + 1)) ^ (5 : Int).toNat) (j := 2147483629) (by omega), k_ret, List.set_cons_succ, List.set_cons_zero]
    have p1 : 0 ≤ (sd + 7919 * (c + 1)) ^ (5 : Int).toNat % 2147483629 := Int.emod_nonneg _ (by omega)
    have p2 : (sd + 7919 * (c + 1)) ^ (5 : Int).toNat % 2147483629 < 2147483629 := Int.emod_lt_of_pos _ (by omega)
    generalize (sd + 7919 * (c + 1)) ^ (5 : Int).toNat % 2147483629 = mx at p1 p2
    have q1 : 0 ≤ 16807 * (c + 1) * (c + 1) := Int.mul_nonneg (by omega) (by omega)
    have q2 : 16807 * (c + 1) * (c + 1) ≤ 1680700000 * 100000 := Int.mul_le_mul (by omega) (by omega) (by omega) (by omega)
    simp -implicitDefEqProofs only [m_mul (i := mx) (j := 48271) (small (by omega) (by omega)) (small (by omega) (by omega)), m_mul (i := 16807) (j := c + 1) (small (by omega) (by omega)) (small (by omega) (by omega)), m_mul (i := 16807 * (c + 1)) (j := c + 1) (small (by omega) (by omega)) (small (by omega) (by omega)), src2 e1, ok_ok, own_int, b_add]
    generalize 16807 * (c + 1) * (c + 1) = cc at q1 q2
    simp -implicitDefEqProofs only [b_pow (powOk_of (i := mx * 48271 + cc + 11) (j := 3) (by omega) (by omega) (by omega) (by omega)), ok_ok]
    rw [b_mod (by omega)]
    simp -implicitDefEqProofs only [ok_ok]
    rw [b_mod hm]
    exact ⟨_, _, rfl, Int.emod_nonneg _ (by omega), Int.emod_lt_of_pos _ hm, rfl⟩
end MP
end
section
set_option autoImplicit false
set_option linter.all false
namespace MP
open PySem PySem.Spec PyProof.Rows L2
theorem walk_ofW {l : PySem.W.OpenLaw} {n k : Nat} {q : Program} {loose : List Str} {XP : (Str → Option Value) → PySem.Heap → Prop} {YP : World → PySem.Heap → Prop} {d : DefRec} {CX : World → CXT} {x : Str}
    (hn : l.most = some n) (hn2 : n ≤ sizeLine) (hdf : d.params.defaults = []) (hr : Room k callerA)
    (F : ∀ (w : World) (mg : Str → Option Value) (fa : Addr) (h : PySem.Heap), YP w h → h.Ns mainGlobals mg → mg d.name = some (.ref fa) →
      ∃ (K : PySem.W.Frag) (fd : FuncData) (sp : Sp), K.In h ∧ (∀ (s : Shared) (u : Value), BindsTo s fd ⟨[u], []⟩ [(x, u)]) ∧
        (∀ (H : Hp) (a : Addr) (ns : List Int), ns.length ≤ n → Only H → SqL K H a (ns.map V.int) → sp [.ref a] H (fun v _ => v = .bl true) fun _ _ _ => False) ∧
        ∀ base : PySem.Heap, K.In base → base.Ns mainGlobals mg → FnOk l.prog w K mg base (CX w) k fa fd [x] sp)
    (hCX : ∀ (w : World) (H : Hp) (s : Shared) (e : Value) (s' : Shared), CX w [] H s (fun _ _ _ => False) e s' → False) :
    PySem.W.WalkO q loose XP YP l.row.toRowW d [] (fun f vs => PySem.call f vs) := by
  refine Att.attach_call hn hdf fun w s₀ s₁ mg mb fa o pm cd doc a vs ns G Y ho hd hcd hmg hobj hints hlen hg => ?_
  obtain ⟨K, fd, sp, KX, hb, hsp, hF⟩ := F w mg fa _ Y G.T.g hmg
  exact law_call KX G.T.g G.T.b G.T.builtins G.T.nolimit hg hobj hints (Nat.le_trans hlen hn2) hr hF hb (fun H hO hS => hsp H a ns hlen hO hS) fun H e s' => hCX w H s₁ e s'
theorem noCX (P : Program) (w : World) (H : Hp) (s : Shared) (e : Value) (s' : Shared) (h : L2.CX P w [] H s (fun _ _ _ => False) e s') : False := by
  obtain ⟨a, B, H', cls, d, _, _, _, _, _, _, _, hE⟩ := h
  exact hE
end MP
end
section
set_option autoImplicit false
set_option linter.all false
namespace MP
open PySem L2
def sourceS (tb : Tb) (cf : Cf) : Fs :=
  sSeq (sAsg (eTup (eCons (xLit (.int 0)) (eCons (xLit (.int 17)) (aNil)))) (gTp 2 (gsCons (gNm 1) (gsCons (gNm 2) (gsNil))))) (sSeq (sFor (iVal (xVar 0)) (gNm 3) (sSeq (sIf (tAndF (tCmp (cmpF tb cf .Eq) (xVar 1) (xLit (.int 0))) (tCmp (cmpF tb cf .GtE) (xVar 3) (xBin (bop .pow) (xLit (.int 10)) (xLit (.int 18))))) (sSeq (sAsg (xVar 3) (gNm 1)) (sNx)) (sNx)) (sSeq (sAsg (xBin (bop .mod) (xBf (eCons (xBin (ownBinT (obF tb cf .Add) (tb.obt .Add) (bop .add)) (xBin (ownBinT (obF tb cf .Add) (tb.obt .Add) (bop .add)) (xBin (ownBinT (obF tb cf .Mult) (tb.obt .Mult) mulW) (xVar 2) (xLit (.int 31))) (xVar 3)) (xLit (.int 7))) (aNil)) (MP.f1 intV)) (xLit (.int 2147483647))) (gNm 2)) (sNx)))) (sSeq (sRet (eLst (eCons (xVar 1) (eCons (xVar 2) (eCons (xLit (.int 0)) (aNil)))))) (sNx)))
theorem k_intI {i : Int} {h : Heap} : intV (.int i) h = .ok (.int i) h := congrArg (fun x => x) rfl
theorem source_ok {tb : Tb} {cf : Cf} {ns : List Int} {h : Heap} {nx bk ct : Env → Heap → Prop} :
    OkS (sourceS tb cf [some (.scr ns), none, none, none] h) nx (fun v h' => ∃ g sd, v = .ref h.length ∧ 0 ≤ sd ∧ sd < 2147483647 ∧ h' = h ++ [(false, .lst (srcL g sd 0))]) bk ct := by
  unfold sourceS
  simp -implicitDefEqProofs only [k_seq, k_asg2, k_tup, k_cons, k_nil, k_lit, k_for, k_ival, k_var, List.set_cons_succ, List.set_cons_zero]
  refine ⟨⟨by decide, by simp⟩, _, _, rfl, ?_⟩
  simp -implicitDefEqProofs only [List.getElem?_cons_zero, Option.join_some, ok_opt, List.set_cons_succ, List.set_cons_zero]
  show OkS (forGo _ (ns.map Val.int) _ h) _ _ _ _
  refine for_inv (fun xs env h' => h' = h ∧ (∃ r : List Int, xs = r.map Val.int) ∧ ∃ g sd x, env = [some (.scr ns), some (.int g), some (.int sd), x] ∧ 0 ≤ sd ∧ sd < 2147483647) (ns.map Val.int) _ h ⟨rfl, ⟨ns, rfl⟩, 0, 17, none, rfl, by omega, by omega⟩ (fun v r env h' ⟨eh, ⟨q, eq⟩, g, sd, x, ee, s1, s2⟩ => ?_) (fun env h' ⟨eh, _, g, sd, x, ee, s1, s2⟩ => ?_)
  · subst eh ee
    cases q with
    | nil => cases eq
    | cons i q =>
      rw [List.map_cons] at eq
      injection eq with e1 e2
      subst e1 e2
      simp -implicitDefEqProofs only [okS_lift]
      show OkS (sSeq _ _ [some (.scr ns), some (.int g), some (.int sd), some (.int i)] h') _ _ _ _
      have tail : ∀ g' (rt' : Val → Heap → Prop) (bk' : Env → Heap → Prop), OkS ((sSeq (sAsg (xBin (bop .mod) (xBf (eCons (xBin (ownBinT (obF tb cf .Add) (tb.obt .Add) (bop .add)) (xBin (ownBinT (obF tb cf .Add) (tb.obt .Add) (bop .add)) (xBin (ownBinT (obF tb cf .Mult) (tb.obt .Mult) mulW) (xVar 2) (xLit (.int 31))) (xVar 3)) (xLit (.int 7))) (aNil)) (MP.f1 intV)) (xLit (.int 2147483647))) (gNm 2)) (sNx)) [some (.scr ns), some (.int g'), some (.int sd), some (.int i)] h') (fun e h => h = h' ∧ (∃ r : List Int, q.map Val.int = r.map Val.int) ∧ ∃ g sd x, e = [some (.scr ns), some (.int g), some (.int sd), x] ∧ 0 ≤ sd ∧ sd < 2147483647)
          rt' bk' (fun e h => h = h' ∧ (∃ r : List Int, q.map Val.int = r.map Val.int) ∧ ∃ g sd x, e = [some (.scr ns), some (.int g), some (.int sd), x] ∧ 0 ≤ sd ∧ sd < 2147483647) := fun g' rt' bk' => by
        simp -implicitDefEqProofs only [k_seq, k_nx, k_asg, k_bin, k_bf, k_cons, k_nil, k_f1, k_var, k_lit, List.getElem?_cons_zero, List.getElem?_cons_succ, Option.join_some, ok_opt, own_int, m_mul (i := sd) (j := 31) (small (by omega) (by omega)) (small (by omega) (by omega)), ok_ok, b_add, k_intI, b_mod (i := sd * 31 + i + 7) (j := 2147483647) (by omega), List.set_cons_succ, List.set_cons_zero]
        exact ⟨trivial, ⟨q, rfl⟩, _, _, _, rfl, Int.emod_nonneg _ (by omega), Int.emod_lt_of_pos _ (by omega)⟩
      rw [k_seq, k_if, k_tand, k_tcmp]
      simp -implicitDefEqProofs only [k_var, k_lit, List.getElem?_cons_zero, List.getElem?_cons_succ, Option.join_some, ok_opt, ok_ok, c_eqI, bl_bl]
      by_cases hg : (g == 0) = true
      · rw [hg, if_pos rfl]
        simp -implicitDefEqProofs only [k_tcmp, k_bin, k_var, k_lit, List.getElem?_cons_zero, List.getElem?_cons_succ, Option.join_some, ok_opt, ok_ok, b_pow (powOk_of (i := 10) (j := 18) (by omega) (by omega) (by omega) (by omega)), c_ge, bl_bl]
        cases decide ((10 : Int) ^ (18 : Int).toNat ≤ i) with
        | true =>
          rw [if_pos rfl, k_seq, k_asg]
          exact tail i _ _
        | false =>
          rw [if_neg Bool.false_ne_true, k_nx]
          exact tail g _ _
      · rw [if_neg hg, if_neg Bool.false_ne_true, k_nx]
        exact tail g _ _
  · subst eh ee
    simp -implicitDefEqProofs only [k_seq, k_nx, k_ret, k_lst, k_cons, k_nil, k_var, k_lit, List.getElem?_cons_zero, List.getElem?_cons_succ, Option.join_some, ok_opt]
    exact ⟨(show 3 ≤ lim by decide), g, sd, rfl, s1, s2, rfl⟩
end MP
end
section
set_option autoImplicit false
set_option linter.all false
namespace MP
open PySem L2
theorem ok_run {tb : Tb} {fns : Nat → Option Fn} {wf fuel d i : Nat} {f : Fn} {args : List Val} {h : Heap} {Q : Val → Heap → Prop} {s : Fs} (hf : fns i = some f) (hl : args.length = f.ps.length) (hs : topSs tb f.N wf (ev tb (callF tb fns wf fuel d) f.N wf fuel) f.sc f.body = s)
    (q : OkS (s (args.map some ++ List.replicate (f.N.length - args.length) none) h) (fun _ h => Q .non h) Q (fun _ _ => False) (fun _ _ => False)) : Ok (callF tb fns wf fuel (d + 1) i args h) Q := by
  show Ok (match fns i with | some f => runBody tb (callF tb fns wf fuel d) wf fuel f args h | none => .bad) Q
  rw [hf]
  show Ok (runBody tb (callF tb fns wf fuel d) wf fuel f args h) Q
  unfold runBody
  rw [if_pos hl, hs]
  cases z : s (args.map some ++ List.replicate (f.N.length - args.length) none) h with
  | nx e h' => rw [z] at q; exact q
  | rt v h' => rw [z] at q; exact q
  | bk e h' => rw [z] at q; exact q.elim
  | ct e h' => rw [z] at q; exact q.elim
  | ex e c fs h' => rw [z] at q; exact q.elim
  | bad => rw [z] at q; exact q.elim
/-- all cells but those of S stay -/
structure Fr (S : Nat → Prop) (h h' : Heap) : Prop where
  len : h.length ≤ h'.length
  keep : ∀ (a : Nat) (c : Cell), ¬ S a → h[a]? = some c → h'[a]? = some c
section
variable {S : Nat → Prop} {h h' h'' : Heap}
theorem Fr.refl (S : Nat → Prop) (h : Heap) : Fr S h h := ⟨Nat.le_refl _, fun _ _ _ e => e⟩
theorem Fr.trans (a : Fr S h h') (b : Fr S h' h'') : Fr S h h'' := ⟨Nat.le_trans a.len b.len, fun x c hx e => b.keep x c hx (a.keep x c hx e)⟩
theorem Fr.imp {S' : Nat → Prop} (a : Fr S h h') (i : ∀ x, S x → S' x) : Fr S' h h' := ⟨a.len, fun x c hx e => a.keep x c (fun z => hx (i x z)) e⟩
theorem Fr.app (S : Nat → Prop) (h l : Heap) : Fr S h (h ++ l) := ⟨by simp, fun x c _ e => by rw [List.getElem?_append_left (lt_of_get e)]; exact e⟩
theorem Fr.set {a : Nat} {c : Cell} (hS : S a) : Fr S h (h.set a c) := ⟨by simp, fun x c' hx e => by
  have hne : a ≠ x := fun z => by subst z; exact hx hS
  rw [List.getElem?_set_ne hne]; exact e⟩
/-- what was laid since may be changed -/
theorem Fr.new {a : Nat} (f : Fr S h h') (ha : h.length ≤ a) {c : Cell} : Fr S h (h'.set a c) := ⟨by simpa using f.len, fun x c' hx e => by
  have := lt_of_get e
  rw [List.getElem?_set_ne (by omega)]
  exact f.keep x c' hx e⟩
end
/-- the law's source, drawn from n times at the most -/
def Sr (h : Heap) (s : Nat) (n : Int) : Prop := ∃ g sd c, h[s]? = some (false, .lst (srcL g sd c)) ∧ 0 ≤ sd ∧ sd < 2147483647 ∧ 0 ≤ c ∧ c ≤ n
theorem Sr.mono {h : Heap} {s : Nat} {n m : Int} (x : Sr h s n) (i : n ≤ m) : Sr h s m := by
  obtain ⟨g, sd, c, e, a, b, d, f⟩ := x
  exact ⟨g, sd, c, e, a, b, d, by omega⟩
theorem Sr.lt {h : Heap} {s : Nat} {n : Int} (x : Sr h s n) : s < h.length := by
  obtain ⟨g, sd, c, e, _⟩ := x
  exact lt_of_get e
theorem Sr.app {h : Heap} {s : Nat} {n : Int} (x : Sr h s n) (l : Heap) : Sr (h ++ l) s n := by
  obtain ⟨g, sd, c, e, r⟩ := x
  exact ⟨g, sd, c, by rw [List.getElem?_append_left (lt_of_get e)]; exact e, r⟩
/-- what a draw does -/
def Drawn (s : Nat) (n m : Int) (h : Heap) (v : Val) (h' : Heap) : Prop := ∃ d, v = .int d ∧ 0 ≤ d ∧ d < m ∧ h'.length = h.length ∧ Fr (· = s) h h' ∧ Sr h' s (n + 1)
theorem draw_call {tb : Tb} {fns : Nat → Option Fn} {wf fuel d i : Nat} {f : Fn} {h : Heap} {s : Nat} {n m : Int} (hf : fns i = some f) (hps : f.ps.length = 2) (hN : f.N.length = 4) (hs : ∀ cf, topSs tb f.N wf (ev tb cf f.N wf fuel) f.sc f.body = drawS tb cf)
    (hS : Sr h s n) (hn : n < 100000) (hm : 0 < m) (hm2 : m < 1073741824) : Ok (callF tb fns wf fuel (d + 1) i [.ref s, .int m] h) (Drawn s n m h) := by
  refine ok_run hf (by rw [hps]; rfl) (hs _) ?_
  obtain ⟨g, sd, c, e, h1, h2, h3, h4⟩ := hS
  rw [hN]
  have := draw_ok (tb := tb) (cf := callF tb fns wf fuel d) (nx := fun _ h' => Drawn s n m h .non h') (bk := fun _ _ => False) (ct := fun _ _ => False) e hm hm2 h1 h2 h3 (by omega)
  refine (show OkS (drawS tb (callF tb fns wf fuel d) [some (.ref s), some (.int m), none, none] h) _ _ _ _ from ?_)
  cases z : drawS tb (callF tb fns wf fuel d) [some (.ref s), some (.int m), none, none] h with
  | rt v h' =>
    rw [z] at this
    obtain ⟨dd, g', rfl, q1, q2, rfl⟩ := this
    exact ⟨dd, rfl, q1, q2, by simp, Fr.set rfl, g', sd, c + 1, set_at e, h1, h2, by omega, by omega⟩
  | nx e h' => rw [z] at this; exact this
  | bk e h' => rw [z] at this; exact this
  | ct e h' => rw [z] at this; exact this
  | ex e c fs h' => rw [z] at this; exact this
  | bad => rw [z] at this; exact this
end MP
end
section
set_option autoImplicit false
set_option linter.all false
namespace MP
open PySem L2
/-- cf i draws from the source at s -/
def DrawOk (c : List Val → Heap → Rs Val) (s : Nat) : Prop := ∀ (h : Heap) (n m : Int), Sr h s n → n < 100000 → 0 < m → m < 1073741824 → Ok (c [.ref s, .int m] h) (Drawn s n m h)
theorem atI_nat {α : Type} {xs : List α} {d : Int} (h0 : 0 ≤ d) (h1 : d < xs.length) : L2.atI xs d = xs[d.toNat]? := by
  unfold L2.atI
  have : L2.ixN xs.length d = some d.toNat := by
    unfold L2.ixN
    rw [if_pos h0, if_pos h1]
  rw [this]
  rfl
theorem mem_at {α : Type} {xs : List α} {d : Int} (h0 : 0 ≤ d) (h1 : d < xs.length) : ∃ v, L2.atI xs d = some v ∧ v ∈ xs := by
  rw [atI_nat h0 h1]
  have hd : d.toNat < xs.length := by omega
  exact ⟨xs[d.toNat], List.getElem?_eq_getElem hd, List.getElem_mem hd⟩
end MP
end
section
set_option autoImplicit false
set_option linter.all false
namespace MP
open PySem L2
def Lw (c : Nat) : Prop := 97 ≤ c ∧ c ≤ 122
def IsNm (x : Str) : Prop := 1 ≤ x.length ∧ x.length ≤ 8 ∧ ∀ c ∈ x.cps.toList, Lw c
end MP
end
section
set_option autoImplicit false
set_option linter.all false
namespace MP
open PySem L2
/-- all cells stay -/
abbrev Lx (h h' : Heap) : Prop := Fr (fun _ => False) h h'
/-- all cells but the source (cell 0) stay -/
abbrev Le (h h' : Heap) : Prop := Fr (fun a => a = 0) h h'
theorem Lx.le {h h' : Heap} (l : Lx h h') : Le h h' := l.imp fun _ z => z.elim
/-- what may be read at a -/
def At (h : Heap) (a : Nat) (c : B) : Prop := 0 < a ∧ rd h a = some c
/-- what may be written at a -/
def Aw (h : Heap) (a : Nat) (c : B) : Prop := 0 < a ∧ h[a]? = some (false, c)
section
variable {h h' h1 h2 : Heap} {a k : Nat} {c : B} {n : Int}
theorem Aw.at (x : Aw h a c) : At h a c := ⟨x.1, rd_of x.2⟩
theorem Aw.lt (x : Aw h a c) : a < h.length := lt_of_get x.2
theorem At.lt (x : At h a c) : a < h.length := by
  obtain ⟨b, e⟩ := rd_cell x.2
  exact lt_of_get e
theorem At.le (x : At h a c) (l : Le h h') : At h' a c := by
  obtain ⟨b, e⟩ := rd_cell x.2
  exact ⟨x.1, rd_of (l.keep a _ (Nat.ne_of_gt x.1) e)⟩
theorem Aw.le (x : Aw h a c) (l : Le h h') : Aw h' a c := ⟨x.1, l.keep a _ (Nat.ne_of_gt x.1) x.2⟩
theorem Aw.new (hp : 0 < h.length) : Aw (h ++ [(false, c)]) h.length c := ⟨hp, by simp⟩
theorem lock_rd (h : Heap) (lk : Option Nat) (a : Nat) : rd (lockH h lk) a = rd h a := by
  unfold lockH
  cases lk with
  | none => rfl
  | some k =>
    dsimp only
    split
    · rename_i b e
      unfold rd
      by_cases hk : k = a
      · subst hk; rw [List.getElem?_set_self (lt_of_get e), e]; rfl
      · rw [List.getElem?_set_ne hk]
    · rfl
theorem At.lock (x : At h a c) (lk : Option Nat) : At (lockH h lk) a c := ⟨x.1, by rw [lock_rd]; exact x.2⟩
theorem Aw.lock (x : Aw h a c) {k : Nat} (hk : k ≠ a) : Aw (lockH h (some k)) a c := by
  refine ⟨x.1, ?_⟩
  unfold lockH
  dsimp only
  split
  · rw [List.getElem?_set_ne hk]; exact x.2
  · exact x.2
theorem Sr.lock {lk : Option Nat} (s : Sr h 0 n) (hk : ∀ k, lk = some k → 0 < k) : Sr (lockH h lk) 0 n := by
  obtain ⟨g, sd, c, e, r⟩ := s
  refine ⟨g, sd, c, ?_, r⟩
  unfold lockH
  cases lk with
  | none => exact e
  | some k =>
    dsimp only
    split
    · rw [List.getElem?_set_ne (Nat.ne_of_gt (hk k rfl))]; exact e
    · exact e
/-- out of a loop -/
theorem Fr.unlock {S : Nat → Prop} {lk : Option Nat} (f : Fr S (lockH h1 lk) h2) : Fr S h1 (unlockH h1 h2 lk) := by
  cases lk with
  | none => exact f
  | some k =>
    unfold lockH at f
    unfold unlockH
    dsimp only at f ⊢
    split at f
    · rename_i b e
      have hl := f.len
      rw [List.length_set] at hl
      refine ⟨by rw [List.length_set]; exact hl, fun x c' hx ex => ?_⟩
      by_cases hk : k = x
      · subst hk
        rw [e] at ex; cases ex
        exact List.getElem?_set_self (Nat.lt_of_lt_of_le (lt_of_get e) hl)
      · rw [List.getElem?_set_ne hk]
        exact f.keep x c' hx (by rw [List.getElem?_set_ne hk]; exact ex)
    · exact f
theorem Sr.unlock {lk : Option Nat} (s : Sr h2 0 n) (hk : ∀ k, lk = some k → 0 < k) : Sr (unlockH h1 h2 lk) 0 n := by
  obtain ⟨g, sd, c, e, r⟩ := s
  refine ⟨g, sd, c, ?_, r⟩
  unfold unlockH
  cases lk with
  | none => exact e
  | some k =>
    dsimp only
    split
    · rw [List.getElem?_set_ne (Nat.ne_of_gt (hk k rfl))]; exact e
    · exact e
end
section
variable {env : Env} {h : Heap} {Q : Val → Heap → Prop} {nx : Env → Heap → Prop} {rt : Val → Heap → Prop} {bk ct : Env → Heap → Prop}
/-- one statement, the rest hidden -/
theorem k_seqK {f1 f2 : Fs} (q : ∀ K : Env → Heap → Prop, (∀ e h, OkS (f2 e h) nx rt bk ct → K e h) → OkS (f1 env h) K rt bk ct) : OkS (sSeq f1 f2 env h) nx rt bk ct := by
  rw [k_seq]
  exact q _ fun e h q => q
end
/-- item by item -/
inductive All2 {α β : Type} (R : α → β → Prop) : List α → List β → Prop
  | nil : All2 R [] []
  | cons {a : α} {b : β} {l : List α} {m : List β} : R a b → All2 R l m → All2 R (a :: l) (b :: m)
theorem All2.length {α β : Type} {R : α → β → Prop} {l : List α} {m : List β} (h : All2 R l m) : l.length = m.length := by
  induction h with
  | nil => rfl
  | cons _ _ ih => rw [List.length_cons, List.length_cons, ih]
theorem sl_str {z : Str} {lo hi : Option Int} {h : Heap} : slV (.str z) lo hi h = .ok (.str (cutS z lo hi)) h := congrArg (fun x => x) rfl
instance (c : Nat) : Decidable (Lw c) := inferInstanceAs (Decidable (_ ∧ _))
instance (x : Str) : Decidable (IsNm x) := inferInstanceAs (Decidable (_ ∧ _ ∧ ∀ _ ∈ _, Lw _))
end MP
end
section
set_option autoImplicit false
set_option linter.all false
set_option maxRecDepth 10000
namespace MP
open PySem L2
theorem Fr.le {h h' : Heap} (l : Fr (fun _ => False) h h') : Le h h' := l.imp fun _ z => z.elim
theorem len_app (x y : Str) : (x ++ y).length = x.length + y.length := by
  show (x ++ y).cps.size = _
  rw [← Array.length_toList, show (x ++ y).cps.toList = x.cps.toList ++ y.cps.toList from TL.tl_append x y, List.length_append, Array.length_toList, Array.length_toList]
  rfl
/-- cf i draws from the source at 0 -/
abbrev Dr (c : List Val → Heap → Rs Val) : Prop := DrawOk c 0
/-- an item of a new list, drawn -/
theorem pick {c : List Val → Heap → Rs Val} {h : Heap} {n m : Int} {vs : List Val} {Q : Val → Heap → Prop} (hd : Dr c) (hS : Sr h 0 n) (hn : n < 90000) (hm : (vs.length : Int) = m) (h0 : 0 < m) (hl : vs.length ≤ 100)
    (q : ∀ v h', v ∈ vs → Le h h' → Sr h' 0 (n + 1) → Q v h') : Ok (c [.ref 0, .int m] (h ++ [(false, .lst vs)])) fun y h' => Ok (ixV (.ref h.length) y h') Q := by
  have hm2 : m < 1073741824 := by omega
  refine (hd (h ++ [(false, .lst vs)]) n m (hS.app _) (by omega) h0 hm2).imp ?_
  rintro y h' ⟨d, rfl, a, b, c', e, f⟩
  have hc : h'[h.length]? = some (false, .lst vs) := e.keep _ _ (Nat.ne_of_gt hS.lt) (by simp)
  obtain ⟨v, ev, hv⟩ := mem_at (xs := vs) a (by rw [hm]; exact b)
  have : ixV (.ref h.length) (.int d) h' = .ok v h' := by
    unfold ixV
    dsimp only
    rw [rd_of hc]
    dsimp only
    rw [ev]
    rfl
  rw [this]
  exact q v h' hv ((Fr.app _ h _).trans e) f
end MP
end
section
set_option autoImplicit false
set_option linter.all false
set_option maxRecDepth 10000
namespace MP
open PySem L2
section
variable {α : Type}
/-- a dict by texts -/
def dS (f : α → Val) (l : List (Str × α)) : List (Key × Val) := l.map fun p => (.inr p.1, f p.2)
/-- putting -/
def putS (x : Str) (a : α) : List (Str × α) → List (Str × α)
  | [] => [(x, a)]
  | (y, b) :: r => if y = x then (y, a) :: r else (y, b) :: putS x a r
theorem putS_keys (x : Str) (a : α) : ∀ l : List (Str × α), (putS x a l).map (·.1) = if x ∈ l.map (·.1) then l.map (·.1) else l.map (·.1) ++ [x]
  | [] => rfl
  | (y, b) :: r => by
    unfold putS
    by_cases e : y = x
    · subst e; simp
    · rw [if_neg e, List.map_cons, putS_keys x a r, List.map_cons]
      by_cases h : x ∈ r.map (·.1)
      · rw [if_pos h, if_pos (List.mem_cons_of_mem _ h)]
      · rw [if_neg h, if_neg (fun z => (List.mem_cons.mp z).elim (fun z => e z.symm) h)]; rfl
theorem putS_nodup (x : Str) (a : α) (l : List (Str × α)) (h : (l.map (·.1)).Nodup) : ((putS x a l).map (·.1)).Nodup := by
  rw [putS_keys]
  split
  · exact h
  · rename_i hx
    exact List.nodup_append.mpr ⟨h, List.nodup_cons.mpr ⟨List.not_mem_nil, List.nodup_nil⟩, fun a ha b hb => by rw [List.mem_singleton.mp hb]; exact fun e => hx (e ▸ ha)⟩
theorem putS_look (x : Str) (a : α) (y : Str) : ∀ l : List (Str × α), (putS x a l).lookup y = if y = x then some a else l.lookup y
  | [] => by
    unfold putS; rw [List.lookup_cons]
    by_cases h : y = x
    · simp [h]
    · rw [show (y == x) = false by simpa using h, if_neg h]
  | (z, b) :: r => by
    unfold putS
    by_cases e : z = x
    · subst e
      rw [if_pos rfl, List.lookup_cons, List.lookup_cons]
      by_cases h : y = z
      · simp [h]
      · rw [show (y == z) = false by simpa using h, if_neg h]
    · rw [if_neg e, List.lookup_cons, putS_look x a y r, List.lookup_cons]
      by_cases h : y = z
      · subst h; simp [e]
      · have : (y == z) = false := by simpa using h
        simp [this]
theorem lookup_key {l : List (Str × α)} {x : Str} : (l.lookup x).isSome = true ↔ x ∈ l.map (·.1) := by
  induction l with
  | nil => simp
  | cons p r ih =>
    obtain ⟨y, b⟩ := p
    rw [List.lookup_cons]
    by_cases e : x = y
    · subst e; simp
    · have : (x == y) = false := by simpa using e
      rw [this]
      simp only [List.map_cons, List.mem_cons, e, false_or]
      exact ih
theorem lookup_of {l : List (Str × α)} {x : Str} {a : α} (hn : (l.map (·.1)).Nodup) (h : (x, a) ∈ l) : l.lookup x = some a := by
  induction l with
  | nil => exact absurd h List.not_mem_nil
  | cons p r ih =>
    obtain ⟨y, b⟩ := p
    rw [List.map_cons, List.nodup_cons] at hn
    rw [List.lookup_cons]
    rcases List.mem_cons.mp h with e | h
    · cases e; simp
    · have : (x == y) = false := by
        have : x ≠ y := fun e => hn.1 (e ▸ List.mem_map.mpr ⟨_, h, rfl⟩)
        simpa using this
      rw [this]
      exact ih hn.2 h
end
def look0 (l : List (Str × Int)) (x : Str) : Int := (l.lookup x).getD 0
abbrev dI : List (Str × Int) → List (Key × Val) := dS Val.int
/-- without noughts, the names ascending -/
def lessL (l : List (Str × Int)) : List (Str × Int) := ((sortS (l.map (·.1))).filter fun x => decide (look0 l x ≠ 0)).map fun x => (x, look0 l x)
end MP
end
section
set_option autoImplicit false
set_option linter.all false
set_option maxRecDepth 10000
namespace MP
open PySem L2
end MP
end
section
set_option autoImplicit false
set_option linter.all false
set_option maxRecDepth 10000
namespace MP
open PySem L2
def addL (one other : List (Str × Int)) : List (Str × Int) := other.foldl (fun acc p => putS p.1 (look0 acc p.1 + p.2) acc) one
theorem addL_nodup : ∀ (other one : List (Str × Int)), (one.map (·.1)).Nodup → ((addL one other).map (·.1)).Nodup
  | [], _, h => h
  | p :: r, one, h => addL_nodup r _ (putS_nodup _ _ _ h)
theorem putS_look0 (x : Str) (a : Int) (y : Str) (l : List (Str × Int)) : look0 (putS x a l) y = if y = x then a else look0 l y := by
  unfold look0
  rw [putS_look]
  by_cases e : y = x <;> simp [e]
theorem addL_look (x : Str) : ∀ (other one : List (Str × Int)), (other.map (·.1)).Nodup → look0 (addL one other) x = look0 one x + look0 other x
  | [], one, _ => by show look0 one x = look0 one x + 0; omega
  | (y, b) :: r, one, h => by
    rw [List.map_cons, List.nodup_cons] at h
    show look0 (addL (putS y (look0 one y + b) one) r) x = _
    rw [addL_look x r _ h.2, putS_look0]
    unfold look0
    rw [List.lookup_cons]
    by_cases e : x = y
    · subst e
      have : r.lookup x = none := by
        have := mt lookup_key.mp h.1
        exact Option.not_isSome_iff_eq_none.mp this
      simp [this]
    · rw [show (x == y) = false by simpa using e, if_neg e]
theorem putS_len (x : Str) (a : Int) (l : List (Str × Int)) : (putS x a l).length ≤ l.length + 1 := by
  have := congrArg List.length (putS_keys x a l)
  rw [List.length_map] at this
  rw [this]
  split <;> simp
theorem addL_len : ∀ (other one : List (Str × Int)), (addL one other).length ≤ one.length + other.length
  | [], _ => Nat.le_refl _
  | p :: r, one => Nat.le_trans (addL_len r _) (by have := putS_len p.1 (look0 one p.1 + p.2) one; simp; omega)
theorem addL_keys (x : Str) : ∀ (other one : List (Str × Int)), x ∈ (addL one other).map (·.1) → x ∈ one.map (·.1) ∨ x ∈ other.map (·.1)
  | [], _, h => .inl h
  | p :: r, one, h => by
    rcases addL_keys x r _ h with h | h
    · rw [putS_keys] at h
      split at h
      · exact .inl h
      · rcases List.mem_append.mp h with h | h
        · exact .inl h
        · rw [List.mem_singleton.mp h]; exact .inr List.mem_cons_self
    · exact .inr (List.mem_cons_of_mem _ h)
theorem dict_dct {h : Heap} {a : Nat} {kvs : List (Key × Val)} (e : rd h a = some (.dct kvs)) : dictV (.ref a) h = al h (.dct kvs) := by
  unfold dictV
  simp only [e]
end MP
end
section
set_option autoImplicit false
set_option linter.all false
set_option maxRecDepth 10000
namespace MP
open PySem L2
/-- what dict(..) takes -/
inductive DL (h : Heap) : Val → List (Str × Int) → Prop
  | non : DL h (.tup []) []
  | dct {a : Nat} {l : List (Str × Int)} : At h a (.dct (dI l)) → DL h (.ref a) l
  | lst {a : Nat} : At h a (.lst []) → DL h (.ref a) []
theorem DL.dict {h : Heap} {v : Val} {l : List (Str × Int)} (d : DL h v l) : dictV v h = al h (.dct (dI l)) := by
  cases d with
  | non => rfl
  | dct A => exact dict_dct A.2
  | lst A => unfold dictV; simp only [A.2]; rfl
theorem DL.le {h h' : Heap} {v : Val} {l : List (Str × Int)} (d : DL h v l) (le : Le h h') : DL h' v l := by
  cases d with
  | non => exact .non
  | dct A => exact .dct (A.le le)
  | lst A => exact .lst (A.le le)
/-- what is asked of the tables of a text -/
structure TT (tb : Tb) (k : Nat) : Prop where
  n1 : tb.na k "own_rows" = true
  n2 : tb.na k "own_counters" = true
  ss : tb.tt (.b "str") (.b "str") = some true
  ii : tb.tt (.b "int") (.b "int") = some true
  ib : tb.tt (.b "int") (.b "bool") = some false
  cc : tb.tt (.c k) (.c k) = some true
  p1 : ∀ cf, prF tb cf "own_rows" k = none
  p2 : ∀ cf, prF tb cf "own_counters" k = none
/-- names and numbers that may stand in a table -/
structure Good1 (l : List (Str × Int)) : Prop where
  nd : (l.map (·.1)).Nodup
  nm : ∀ p ∈ l, IsNm p.1
  few : l.length < 32
def tabF (ra ca : Nat) : List (Str × Val) := [("own_rows", .ref ra), ("own_counters", .ref ca)]
/-- a table -/
def IsTab (k : Nat) (h : Heap) (v : Val) (R C : List (Str × Int)) : Prop := ∃ s ra ca, v = .ref s ∧ At h s (.ins k (tabF ra ca)) ∧ At h ra (.dct (dI (lessL R))) ∧ At h ca (.dct (dI (lessL C)))
theorem IsTab.le {k : Nat} {h h' : Heap} {v : Val} {R C : List (Str × Int)} (t : IsTab k h v R C) (l : Le h h') : IsTab k h' v R C := by
  obtain ⟨s, ra, ca, e, a, b, c⟩ := t
  exact ⟨s, ra, ca, e, a.le l, b.le l, c.le l⟩
theorem IsTab.lock {k : Nat} {h : Heap} {v : Val} {R C : List (Str × Int)} (t : IsTab k h v R C) (lk : Option Nat) : IsTab k (lockH h lk) v R C := by
  obtain ⟨s, ra, ca, e, a, b, c⟩ := t
  exact ⟨s, ra, ca, e, a.lock lk, b.lock lk, c.lock lk⟩
theorem Good1.add {l m : List (Str × Int)} (g : Good1 l) (g' : Good1 m) (few : l.length + m.length < 32) : Good1 (addL l m) := ⟨addL_nodup m l g.nd, fun p hp => by
  rcases addL_keys p.1 m l (List.mem_map.mpr ⟨p, hp, rfl⟩) with h | h
  · obtain ⟨q, hq, e⟩ := List.mem_map.mp h
    rw [← e]; exact g.nm q hq
  · obtain ⟨q, hq, e⟩ := List.mem_map.mp h
    rw [← e]; exact g'.nm q hq, Nat.lt_of_le_of_lt (addL_len m l) few⟩
end MP
end
section
set_option autoImplicit false
set_option linter.all false
set_option maxRecDepth 10000
namespace MP
open PySem L2
end MP
end
section
set_option Elab.async false
set_option linter.all false
set_option maxRecDepth 100000
set_option maxHeartbeats 0
namespace MPL
open PySem L2 MP
/-- _law_source: 0=_law_script 1=_law_great 2=_law_seed 3=_law_cell -/
def s0 (cf : Cf) (wf : Nat) : Fs :=
  sSeq (sAsg (eTup (eCons (xLit (.int 0)) (eCons (xLit (.int 17)) (aNil)))) (gTp 2 (gsCons (gNm 1) (gsCons (gNm 2) (gsNil))))) (sSeq (sFor (iVal (xVar 0)) (gNm 3) (sSeq (sIf (tAndF (tCmp (cmpF D.tb cf .Eq) (xVar 1) (xLit (.int 0))) (tCmp (cmpF D.tb cf .GtE) (xVar 3) (xBin (bop .pow) (xLit (.int 10)) (xLit (.int 18))))) (sSeq (sAsg (xVar 3) (gNm 1)) (sNx)) (sNx)) (sSeq (sAsg (xBin (bop .mod) (xBf (eCons (xBin (ownBinT (obF D.tb cf .Add) (D.tb.obt .Add) (bop .add)) (xBin (ownBinT (obF D.tb cf .Add) (D.tb.obt .Add) (bop .add)) (xBin (ownBinT (obF D.tb cf .Mult) (D.tb.obt .Mult) mulW) (xVar 2) (xLit (.int 31))) (xVar 3)) (xLit (.int 7))) (aNil)) (MP.f1 intV)) (xLit (.int 2147483647))) (gNm 2)) (sNx)))) (sSeq (sRet (eLst (eCons (xVar 1) (eCons (xVar 2) (eCons (xLit (.int 0)) (aNil)))))) (sNx)))
theorem s0_eq (cf : Cf) (wf : Nat) : topSs D.tb f0.N wf (ev D.tb cf f0.N wf 60) f0.scope f0.body = s0 cf wf := by kernel_rfl
/-- _law_draw: 0=_law_source_here 1=_law_many 2=_law_digit 3=_law_mixed -/
def s1 (cf : Cf) (wf : Nat) : Fs :=
  sSeq (sSubF (xVar 0) (xLit (.int 2)) (xBin (ownBinT (obF D.tb cf .Add) (D.tb.obt .Add) (bop .add)) (xBin ixV (xVar 0) (xLit (.int 2))) (xLit (.int 1)))) (sSeq (sIf (tCmp (cmpF D.tb cf .Gt) (xBin ixV (xVar 0) (xLit (.int 0))) (xLit (.int 1))) (sSeq (sAsg (xBin (bop .mod) (xBf (eCons (xBin ixV (xVar 0) (xLit (.int 0))) (aNil)) (MP.f1 intV)) (xVar 1)) (gNm 2)) (sSeq (sSubF (xVar 0) (xLit (.int 0)) (xBin (bop .fdiv) (xBin ixV (xVar 0) (xLit (.int 0))) (xVar 1))) (sSeq (sRet (xVar 2)) (sNx)))) (sNx)) (sSeq (sAsg (xBin (bop .mod) (xBin (bop .pow) (xBin (ownBinT (obF D.tb cf .Add) (D.tb.obt .Add) (bop .add)) (xBin ixV (xVar 0) (xLit (.int 1))) (xBin (ownBinT (obF D.tb cf .Mult) (D.tb.obt .Mult) mulW) (xLit (.int 7919)) (xBin ixV (xVar 0) (xLit (.int 2))))) (xLit (.int 5))) (xLit (.int 2147483629))) (gNm 3)) (sSeq (sRet (xBin (bop .mod) (xBin (bop .mod) (xBin (bop .pow) (xBin (ownBinT (obF D.tb cf .Add) (D.tb.obt .Add) (bop .add)) (xBin (ownBinT (obF D.tb cf .Add) (D.tb.obt .Add) (bop .add)) (xBin (ownBinT (obF D.tb cf .Mult) (D.tb.obt .Mult) mulW) (xVar 3) (xLit (.int 48271))) (xBin (ownBinT (obF D.tb cf .Mult) (D.tb.obt .Mult) mulW) (xBin (ownBinT (obF D.tb cf .Mult) (D.tb.obt .Mult) mulW) (xLit (.int 16807)) (xBin ixV (xVar 0) (xLit (.int 2)))) (xBin ixV (xVar 0) (xLit (.int 2))))) (xLit (.int 11))) (xLit (.int 3))) (xLit (.int 1000000007))) (xVar 1))) (sNx))))
theorem s1_eq (cf : Cf) (wf : Nat) : topSs D.tb f1.N wf (ev D.tb cf f1.N wf 60) f1.scope f1.body = s1 cf wf := by kernel_rfl
/-- _law_pick: 0=_law_source_here 1=_law_things -/
def s2 (cf : Cf) (wf : Nat) : Fs :=
  sSeq (sRet (xBin ixV (xVar 1) (eCall 2 (cf 1) [] (eCons (xVar 0) (eCons (xBf (eCons (xVar 1) (aNil)) (MP.f1 lenV)) (aNil)))))) (sNx)
theorem s2_eq (cf : Cf) (wf : Nat) : topSs D.tb f2.N wf (ev D.tb cf f2.N wf 60) f2.scope f2.body = s2 cf wf := by kernel_rfl
end MPL
end
section
set_option autoImplicit false
set_option linter.all false
set_option maxRecDepth 10000
namespace MP
open PySem L2
open PySem.StrLaws PySem.Builtin.Str
def IsWd (x : Str) : Prop := IsNm x ∨ ∃ y, IsNm y ∧ (x = "old." ++ y ∨ x = "new." ++ y)
theorem IsWd.len {x : Str} (h : IsWd x) : x.length ≤ 12 := by
  rcases h with h | ⟨y, h, rfl | rfl⟩
  · have := h.2.1; omega
  · rw [len_app]; have := h.2.1; show 4 + _ ≤ _; omega
  · rw [len_app]; have := h.2.1; show 4 + _ ≤ _; omega
theorem Fr.fresh {S : Nat → Prop} {h h1 : Heap} {a : Nat} {c : Cell} (f : Fr S h h1) (ha : h.length ≤ a) : Fr S h (h1.set a c) :=
  ⟨by rw [List.length_set]; exact f.len, fun x k hx e => by rw [List.getElem?_set_ne (fun z => by have := lt_of_get e; omega)]; exact f.keep x k hx e⟩
theorem Sr.set {h : Heap} {n : Int} {a : Nat} {c : Cell} (s : Sr h 0 n) (ha : 0 < a) : Sr (h.set a c) 0 n := by
  obtain ⟨g, sd, k, e, r⟩ := s
  exact ⟨g, sd, k, by rw [List.getElem?_set_ne (by omega)]; exact e, r⟩
end MP
end
section
set_option autoImplicit false
set_option linter.all false
set_option maxRecDepth 10000
namespace MP
open PySem L2
end MP
end
section
set_option autoImplicit false
set_option linter.all false
set_option maxRecDepth 10000
namespace MP
open PySem L2
structure Good2 (l : List (Str × Int)) : Prop where
  nd : (l.map (·.1)).Nodup
  nm : ∀ p ∈ l, IsWd p.1
  few : l.length < 32
def formF (pa : Nat) (n : Int) : List (Str × Val) := [("own_parts", .ref pa), ("own_number", .int n)]
/-- a form -/
def IsForm (k lo : Nat) (h : Heap) (v : Val) (P : List (Str × Int)) (n : Int) : Prop := ∃ s pa, v = .ref s ∧ At h s (.ins k (formF pa n)) ∧ At h pa (.dct (dI (lessL P))) ∧ lo ≤ pa
theorem IsForm.mono {k lo lo' : Nat} {h : Heap} {v : Val} {P : List (Str × Int)} {n : Int} (t : IsForm k lo h v P n) (l : lo' ≤ lo) : IsForm k lo' h v P n := by
  obtain ⟨s, pa, e, a, b, c⟩ := t
  exact ⟨s, pa, e, a, b, Nat.le_trans l c⟩
theorem IsForm.le {k lo : Nat} {h h' : Heap} {v : Val} {P : List (Str × Int)} {n : Int} (t : IsForm k lo h v P n) (l : Le h h') : IsForm k lo h' v P n := by
  obtain ⟨s, pa, e, a, b, c⟩ := t
  exact ⟨s, pa, e, a.le l, b.le l, c⟩
theorem Good2.add {l m : List (Str × Int)} (g : Good2 l) (g' : Good2 m) (few : l.length + m.length < 32) : Good2 (addL l m) := ⟨addL_nodup m l g.nd, fun p hp => by
  rcases addL_keys p.1 m l (List.mem_map.mpr ⟨p, hp, rfl⟩) with h | h
  · obtain ⟨q, hq, e⟩ := List.mem_map.mp h
    rw [← e]; exact g.nm q hq
  · obtain ⟨q, hq, e⟩ := List.mem_map.mp h
    rw [← e]; exact g'.nm q hq, Nat.lt_of_le_of_lt (addL_len m l) few⟩
end MP
end
section
set_option autoImplicit false
set_option linter.all false
set_option maxRecDepth 10000
namespace MP
open PySem L2
def mulL (l : List (Str × Int)) (t : Int) : List (Str × Int) := l.map fun p => (p.1, p.2 * t)
theorem mulL_keys (l : List (Str × Int)) (t : Int) : (mulL l t).map (·.1) = l.map (·.1) := by unfold mulL; rw [List.map_map]; rfl
theorem mulL_look (t : Int) (x : Str) : ∀ l : List (Str × Int), look0 (mulL l t) x = look0 l x * t
  | [] => by show (0 : Int) = 0 * t; rw [Int.zero_mul]
  | (y, z) :: l => by
    have ih := mulL_look t x l
    unfold look0 mulL at ih ⊢
    rw [List.map_cons, List.lookup_cons, List.lookup_cons]
    cases x == y
    · exact ih
    · rfl
/-- all of its numbers are small -/
def Sm (b : Nat) (l : List (Str × Int)) : Prop := ∀ x, (look0 l x).natAbs < 2 ^ b
theorem Sm.mem {b : Nat} {l : List (Str × Int)} (s : Sm b l) (hn : (l.map (·.1)).Nodup) {p : Str × Int} (hp : p ∈ l) : p.2.natAbs < 2 ^ b := by
  have := s p.1
  unfold look0 at this
  rw [lookup_of hn (a := p.2) hp] at this
  exact this
theorem Sm.mul {b c : Nat} {l : List (Str × Int)} {t : Int} (s : Sm b l) (ht : t.natAbs < 2 ^ c) : Sm (b + c) (mulL l t) := fun x => by
  rw [mulL_look, Int.natAbs_mul, Nat.pow_add]
  exact Nat.mul_lt_mul'' (s x) ht
theorem Sm.add {b : Nat} {l m : List (Str × Int)} (s : Sm b l) (s' : Sm b m) (hm : (m.map (·.1)).Nodup) : Sm (b + 1) (addL l m) := fun x => by
  rw [addL_look x m l hm, Nat.pow_succ]
  have h1 := s x
  have h2 := s' x
  have := Int.natAbs_add_le (look0 l x) (look0 m x)
  omega
theorem Sm.mono {b c : Nat} {l : List (Str × Int)} (s : Sm b l) (h : b ≤ c) : Sm c l := fun x => Nat.lt_of_lt_of_le (s x) (Nat.pow_le_pow_right (by decide) h)
theorem Good2.mul {l : List (Str × Int)} (g : Good2 l) (t : Int) : Good2 (mulL l t) := ⟨by rw [mulL_keys]; exact g.nd, fun p hp => by
  unfold mulL at hp
  obtain ⟨q, hq, rfl⟩ := List.mem_map.mp hp
  exact g.nm q hq, by unfold mulL; rw [List.length_map]; exact g.few⟩
end MP
end
section
set_option autoImplicit false
set_option linter.all false
set_option maxRecDepth 10000
set_option exponentiation.threshold 1000
namespace MP
open PySem L2
theorem At.set {h : Heap} {a b : Nat} {c : B} {e : Cell} (x : At h a c) (hne : b ≠ a) : At (h.set b e) a c := ⟨x.1, by unfold rd; rw [List.getElem?_set_ne hne]; exact x.2⟩
theorem Aw.set {h : Heap} {a b : Nat} {c : B} {e : Cell} (x : Aw h a c) (hne : b ≠ a) : Aw (h.set b e) a c := ⟨x.1, by rw [List.getElem?_set_ne hne]; exact x.2⟩
end MP
end
section
set_option autoImplicit false
set_option Elab.async false
set_option linter.all false
set_option maxRecDepth 100000
set_option exponentiation.threshold 100000
namespace MPL
open PySem L2 MP
abbrev C (wf d : Nat) : Cf := callF D.tb D.fn wf 60 d
theorem fn0 : D.fn 0 = some f0.fn := by kernel_rfl
theorem fn1 : D.fn 1 = some f1.fn := by kernel_rfl
theorem fn2 : D.fn 2 = some f2.fn := by kernel_rfl
theorem fn4 : D.fn 4 = some f4.fn := by kernel_rfl
/-- what was drawn: one of the things, the rest of the heap as it was -/
def thing (i : Nat) : Val := match i with
  | 0 => .non
  | 1 => .int 5
  | 2 => .str "a"
  | 3 => .tup [.str "a", .int 1]
  | 4 => .ref 1
  | 5 => .ref 2
  | 6 => .int (((10 ^ 60) ^ 64) ^ 2)
  | _ => .bl true
def things : List Val := [.non, .int 5, .str "a", .tup [.str "a", .int 1], .ref 1, .ref 2, .int (((10 ^ 60) ^ 64) ^ 2), .bl true]
def hp3 (g sd c : Int) : MP.Heap := [(false, .lst (srcL g sd c)), (false, .lst [.str "b"]), (false, .dct []), (false, .lst things)]
def isT : SR → Bool
  | .rt (.bl b) _ => b
  | _ => false
theorem okS_T {r : SR} {nx : MP.Env → MP.Heap → Prop} {rt : Val → MP.Heap → Prop} {bk ct : MP.Env → MP.Heap → Prop} (h : isT r = true) (q : ∀ h', rt (.bl true) h') : OkS r nx rt bk ct := by
  cases r with
  | rt v h' =>
    cases v with
    | bl b =>
      have : b = true := h
      subst this
      exact q h'
    | _ => cases h
  | _ => cases h
/-- the rest of the law -/
@[irreducible] def rest (cf : Cf) : Fs := fun env h => topSs D.tb f4.N 0 (ev D.tb cf f4.N 0 60) f4.scope (f4.body.drop 2) env h
def envx (ns : List Int) (x : Val) : MP.Env := [some (.scr ns), some (.ref 0), some x, none, none, none, none, none, none, none]
theorem r0 (ns : List Int) (g sd c : Int) : isT (rest (C 0 3) (envx ns (thing 0)) (hp3 g sd c)) = true := by kernel_rfl
theorem r1 (ns : List Int) (g sd c : Int) : isT (rest (C 0 3) (envx ns (thing 1)) (hp3 g sd c)) = true := by kernel_rfl
theorem r2 (ns : List Int) (g sd c : Int) : isT (rest (C 0 3) (envx ns (thing 2)) (hp3 g sd c)) = true := by kernel_rfl
theorem r3 (ns : List Int) (g sd c : Int) : isT (rest (C 0 3) (envx ns (thing 3)) (hp3 g sd c)) = true := by kernel_rfl
theorem r4 (ns : List Int) (g sd c : Int) : isT (rest (C 0 3) (envx ns (thing 4)) (hp3 g sd c)) = true := by kernel_rfl
theorem r5 (ns : List Int) (g sd c : Int) : isT (rest (C 0 3) (envx ns (thing 5)) (hp3 g sd c)) = true := by kernel_rfl
theorem r6 (ns : List Int) (g sd c : Int) : isT (rest (C 0 3) (envx ns (thing 6)) (hp3 g sd c)) = true := by kernel_rfl
theorem r7 (ns : List Int) (g sd c : Int) : isT (rest (C 0 3) (envx ns (thing 7)) (hp3 g sd c)) = true := by kernel_rfl
end MPL
end
section
set_option autoImplicit false
set_option Elab.async false
set_option linter.all false
set_option maxRecDepth 100000
set_option exponentiation.threshold 100000
namespace MPL
open PySem L2 MP
theorem draw {wf d : Nat} : DrawOk (C wf (d + 1) 1) 0 := fun h n m hS hn hm hm2 => draw_call (f := f1.fn) fn1 rfl rfl (fun cf => (s1_eq cf wf).trans rfl) hS hn hm hm2
theorem source {wf d : Nat} {ns : List Int} {h : MP.Heap} : Ok (C wf (d + 1) 0 [.scr ns] h) fun v h' => ∃ g sd, v = .ref h.length ∧ 0 ≤ sd ∧ sd < 2147483647 ∧ h' = h ++ [(false, .lst (srcL g sd 0))] :=
  ok_run (s := sourceS D.tb (C wf d)) fn0 rfl ((s0_eq _ wf).trans rfl) source_ok
theorem hp_of {h : MP.Heap} {g sd c g' sd' c' : Int} (hl : h.length = 4) (F : Fr (· = 0) (hp3 g sd c) h) (e : h[0]? = some (false, .lst (srcL g' sd' c'))) : h = hp3 g' sd' c' := by
  have k1 := F.keep 1 _ (by decide) (show (hp3 g sd c)[1]? = some _ from rfl)
  have k2 := F.keep 2 _ (by decide) (show (hp3 g sd c)[2]? = some _ from rfl)
  have k3 := F.keep 3 _ (by decide) (show (hp3 g sd c)[3]? = some _ from rfl)
  match h, hl with
  | [a0, a1, a2, a3], _ =>
    have q0 : a0 = _ := Option.some.inj e
    have q1 : a1 = _ := Option.some.inj k1
    have q2 : a2 = _ := Option.some.inj k2
    have q3 : a3 = _ := Option.some.inj k3
    subst q0 q1 q2 q3
    rfl
theorem at_things : ∀ i : Nat, i < 8 → L2.atI things (i : Int) = some (thing i)
  | 0, _ => rfl
  | 1, _ => rfl
  | 2, _ => rfl
  | 3, _ => rfl
  | 4, _ => rfl
  | 5, _ => rfl
  | 6, _ => rfl
  | 7, _ => rfl
theorem ix_hp {g sd c : Int} {i : Nat} (hi : i < 8) : ixV (.ref 3) (.int i) (hp3 g sd c) = .ok (thing i) (hp3 g sd c) := by
  unfold ixV
  dsimp only
  rw [rd_of (show (hp3 g sd c)[3]? = some (false, .lst things) from rfl)]
  dsimp only
  rw [at_things i hi]
  rfl
theorem pick {wf d : Nat} {g sd : Int} (h0 : 0 ≤ sd) (h1 : sd < 2147483647) : Ok (C wf (d + 2) 2 [.ref 0, .ref 3] (hp3 g sd 0)) fun v h' => ∃ i g' sd' c', i < 8 ∧ v = thing i ∧ h' = hp3 g' sd' c' := by
  refine ok_run (s := s2 (C wf (d + 1)) wf) fn2 rfl (s2_eq _ wf) ?_
  show OkS (s2 (C wf (d + 1)) wf [some (.ref 0), some (.ref 3)] (hp3 g sd 0)) _ _ _ _
  unfold s2
  rw [k_seq, k_ret, k_bin, k_var]
  show Ok (Rs.ok (Val.ref 3) (hp3 g sd 0)) _
  rw [ok_ok, k_call]
  rw [show (eCons (xVar 0) (eCons (xBf (eCons (xVar 1) aNil) (MP.f1 lenV)) aNil)) [some (.ref 0), some (.ref 3)] (hp3 g sd 0) = .ok [.ref 0, .int 8] (hp3 g sd 0) from by kernel_rfl]
  rw [ok_ok]
  refine ⟨rfl, ?_⟩
  have S0 : Sr (hp3 g sd 0) 0 0 := ⟨g, sd, 0, rfl, h0, h1, Int.le_refl _, Int.le_refl _⟩
  refine (draw (wf := wf) (d := d) (hp3 g sd 0) 0 8 S0 (by decide) (by decide) (by decide)).imp ?_
  rintro v h' ⟨j, rfl, j0, j1, hl, F, g', sd', c', e, _⟩
  obtain ⟨i, rfl⟩ : ∃ i : Nat, j = i := ⟨j.toNat, by omega⟩
  have hi : i < 8 := by omega
  cases hp_of (by rw [hl]; rfl) F e
  rw [ix_hp hi, ok_ok]
  exact ⟨i, g', sd', c', hi, rfl, rfl⟩
def fsB : Fa := eCons (xVar 1) (eCons (eLst (eCons (xLit .non) (eCons (xLit (.int 5)) (eCons (xLit (.str "a")) (eCons (eTup (eCons (xLit (.str "a")) (eCons (xLit (.int 1)) (aNil)))) (eCons (eLst (eCons (xLit (.str "b")) (aNil))) (eCons (xNew (.dct [])) (eCons (xBin (bop .pow) (xBin (bop .pow) (xBin (bop .pow) (xLit (.int 10)) (xLit (.int 60))) (xLit (.int 64))) (xLit (.int 2))) (eCons (xLit (.bl true)) (aNil)))))))))) (aNil))
def env1 (ns : List Int) : MP.Env := [some (.scr ns), some (.ref 0), none, none, none, none, none, none, none, none]
theorem fsB_run (ns : List Int) (g sd : Int) : fsB (env1 ns) [(false, .lst (srcL g sd 0))] = .ok [.ref 0, .ref 3] (hp3 g sd 0) := by kernel_rfl
def lawS (cf : Cf) : Fs := sSeq (sAsg (eCall 1 (cf 0) [] (eCons (xVar 0) (aNil))) (gNm 1)) (sSeq (sAsg (eCall 2 (cf 2) [] fsB) (gNm 2)) (rest cf))
theorem lawS_eq (cf : Cf) : topSs D.tb f4.N 0 (ev D.tb cf f4.N 0 60) f4.scope f4.body = lawS cf := by kernel_rfl
theorem rests (ns : List Int) (g sd c : Int) : ∀ i : Nat, i < 8 → isT (rest (C 0 3) (envx ns (thing i)) (hp3 g sd c)) = true
  | 0, _ => r0 ns g sd c
  | 1, _ => r1 ns g sd c
  | 2, _ => r2 ns g sd c
  | 3, _ => r3 ns g sd c
  | 4, _ => r4 ns g sd c
  | 5, _ => r5 ns g sd c
  | 6, _ => r6 ns g sd c
  | 7, _ => r7 ns g sd c
theorem law {ns : List Int} : Ok (C 0 4 4 [.scr ns] []) fun v _ => v = .bl true := by
  refine ok_run (s := lawS (C 0 3)) fn4 rfl (lawS_eq _) ?_
  show OkS (lawS (C 0 3) [some (.scr ns), none, none, none, none, none, none, none, none, none] []) _ _ _ _
  unfold lawS
  with_reducible refine k_seqK fun K hK => ?_
  rw [k_asg, k_call]
  rw [show (eCons (xVar 0) aNil) [some (.scr ns), none, none, none, none, none, none, none, none, none] [] = .ok [.scr ns] [] from rfl, ok_ok]
  refine ⟨rfl, (source (wf := 0) (d := 2)).imp ?_⟩
  rintro v h0 ⟨g, sd, rfl, s0, s1, rfl⟩
  refine hK _ _ ?_
  clear hK K
  show OkS (sSeq (sAsg (eCall 2 (C 0 3 2) [] fsB) (gNm 2)) (rest (C 0 3)) (env1 ns) [(false, .lst (srcL g sd 0))]) _ _ _ _
  with_reducible refine k_seqK fun K hK => ?_
  rw [k_asg, k_call, fsB_run, ok_ok]
  refine ⟨rfl, (pick (wf := 0) (d := 1) s0 s1).imp ?_⟩
  rintro v h1 ⟨i, g', sd', c', hi, rfl, rfl⟩
  refine hK _ _ ?_
  clear hK K
  exact okS_T (rests ns g' sd' c' i hi) fun _ => rfl
end MPL
end
section
set_option Elab.async false
set_option linter.all false
set_option maxRecDepth 100000
set_option maxHeartbeats 0
open PySem PySem.W PySem.Calls PyProof.Rows
theorem MPL.holds_of (wf d : Nat) (hr : L2.Room (2 * d + 1) callerA) (main : ∀ ns : List Int, ns.length ≤ 63 → ∃ h', MP.callF MPL.D.tb MPL.D.fn wf 60 d 4 [.scr ns] [] = .ok (.bl true) h') : PySem.Challenge.rw_statementlots_k21_errors_made.Holds := by
  w_on; o_law
  refine HandSHeadRun.head_any (r := OpenLaw.row PySem.Challenge.rw_statementlots_k21_errors_made) (q := view (OpenLaw.row PySem.Challenge.rw_statementlots_k21_errors_made).prog [21]) (H := MPL.D.hook 6) (ob := MPL.D.ob 6) (M := 20000) (loose := MPL.names) (d := HandSHeadRun.topDef (OpenLaw.row PySem.Challenge.rw_statementlots_k21_errors_made).prog 21) (kwd := []) (MPL.D.ob_eq 6)
    (by kernel_rfl) (fun s => by kernel_rfl) MPL.run (by kernel_rfl) (by kernel_rfl) (by kernel_rfl) (by rfl) (by first | assumption | decide +kernel) (by decide +kernel) ⟨rfl, rfl, rfl, rfl, rfl, by decide +kernel⟩ ?hw ?hc
  case hw => w_witness2
  case hc =>
    refine MP.walk_ofW (l := PySem.Challenge.rw_statementlots_k21_errors_made) (n := 63) (k := 2 * d + 1) (x := "_law_script") (CX := fun w => L2.CX PySem.Challenge.rw_statementlots_k21_errors_made.prog w) rfl (by decide) (by kernel_rfl) hr ?F ?z
    case F =>
      intro w mg fa h Y G hmg0
      obtain ⟨K, KX, c⟩ := Y
      have hmg : mg ("law" : PySem.Str) = some (.ref fa) := by
        have e : (HandSHeadRun.topDef (OpenLaw.row PySem.Challenge.rw_statementlots_k21_errors_made).prog 21).name = ("law" : PySem.Str) := by kernel_rfl
        rw [← e]
        exact hmg0
      obtain ⟨fd, sp, h1, h2, h3⟩ := MP.Dt.facts (D := MPL.D) (P := (PySem.Challenge.rw_statementlots_k21_errors_made).prog) (w := w) (i := 4) (f := MPL.f4) (x := "_law_script") (lw := "law") KX G hmg c MPL.scs MPL.bnds MPL.lens rfl (MP.look_mem (by kernel_rfl)) rfl rfl MPL.xtx MPL.xbs rfl (by decide +kernel) main
      exact ⟨K, fd, sp, KX, h1, h2, h3⟩
    case z => exact fun w H s e s' h => MP.noCX _ w H s e s' h
end
section
set_option Elab.async false
set_option linter.all false
open PySem PySem.W PySem.Calls PyProof.Rows
theorem PySem.Challenge.cw_statementlots_k21_errors_made_holds : PySem.Challenge.rw_statementlots_k21_errors_made.Holds := by
  refine MPL.holds_of 0 4 ⟨rfl, by decide +kernel, by decide +kernel⟩ fun ns hn => ?_
  obtain ⟨v, h', e, q⟩ := (MPL.law (ns := ns)).ex
  subst q
  exact ⟨h', e⟩
end
