import PyProof.Rows.All
import Wide.All
import OpenK.AllK
import Wide.FinOn
import HandS.ForMost
import HandS.Wide
import KE.LtData
import KE.SortData
import HandS.ExcOwn
import HandS.TryMany
import HandS.WordsExc
import HandS.TupAny
import HandS.TupMul
import HandS.Flow
import HandS.Style
import HandS.Gcd
import HandS.Deep
import HandS.Text
import HandS.Dict
import HandS.DictTup
import HandS.RaiseMore
import HandS.IsInst
import HandS.Comp
import HandS.Iter
import HandS.Ends
import PySem.Challenge.RW_bestchance_k01_whole_fractions
set_option Elab.async false
set_option linter.all false
set_option maxRecDepth 100000
/-! Mi: a small interpreter over trees; its values, states, results. -/
namespace Mi
open PySem

/-- values: tuples, frozen lists and dicts are trees; mutable things are told by their number in the store -/
inductive IV where
  | non | bl (b : Bool) | int (i : Int) | str (x : Str)
  | tup (xs : List IV) | lst (xs : List IV) | scr (xs : List IV) | dct (t : Bool) (ks : List IV) (vs : List IV)
  | obj (n : Nat) | fn (i : Nat) | ty (n : String)
  deriving Inhabited

/-- what a name of a frame holds: a value, or a list (a dict) that nothing else knows -/
inductive SV where
  | v (x : IV) | ol (xs : List IV) | od (t : Bool) (ks : List IV) (vs : List IV)
  deriving Inhabited

/-- what stands in the store -/
inductive IO where
  | lst (xs : List IV) | dct (t : Bool) (ks : List IV) (vs : List IV)
  deriving Inhabited

/-- an exception: its class's number, what it keeps -/
structure Ex where
  cls : Nat
  arg : Option IV

abbrev Rho := List (Option SV)
abbrev Sto := List IO
structure S where
  r : Rho
  h : Sto

inductive R (α : Type) where
  | ok (a : α) (s : S)
  | exc (e : Ex) (s : S)
  | bad

def R.bind {α β : Type} (x : R α) (f : α → S → R β) : R β :=
  match x with
  | .ok a s => f a s
  | .exc e s => .exc e s
  | .bad => .bad

/-- of a call -/
inductive Rc where
  | ok (v : IV) (h : Sto)
  | exc (e : Ex) (h : Sto)
  | bad

theorem bind_ok {α β : Type} (a : α) (s : S) (f : α → S → R β) : (R.ok a s).bind f = f a s := rfl
theorem bind_exc {α β : Type} (e : Ex) (s : S) (f : α → S → R β) : (R.exc e s : R α).bind f = .exc e s := rfl
theorem bind_bad {α β : Type} (f : α → S → R β) : (R.bad : R α).bind f = .bad := rfl
def ofO {α : Type} (o : Option α) (s : S) : R α := match o with
  | some a => .ok a s
  | none => .bad

/-! ### operators on values -/
inductive BOp where
  | add | sub | mul | fdiv | mod | pow
  deriving DecidableEq
inductive COp where
  | eq | ne | lt | le | gt | ge | is | isnot | isin | notin
  deriving DecidableEq

/-- the two ints of a product: together less than a million bits -/
def mulOk (i j : Int) : Bool := Nat.blt (i.natAbs.log2 + j.natAbs.log2) 1000000
/-- a divisor: not 0, below 2 ^ 9000 -/
def divOk (j : Int) : Bool := !(j == 0) && Nat.blt j.natAbs.log2 9000
def powOk (i j : Int) : Bool := decide (0 ≤ j) && decide (j ≤ 1000000) && Nat.blt (i.natAbs.log2 * j.toNat) 900000

def lineOk (n : Nat) : Bool := Nat.ble n sizeLine

def iAdd : IV → IV → Option IV
  | .int i, .int j => some (.int (i + j))
  | .str x, .str y => if lineOk (x.length + y.length) then some (.str (x ++ y)) else none
  | .tup xs, .tup ys => if lineOk (xs.length + ys.length) then some (.tup (xs ++ ys)) else none
  | .lst xs, .lst ys => if lineOk (xs.length + ys.length) then some (.lst (xs ++ ys)) else none
  | _, _ => none
def iSub : IV → IV → Option IV
  | .int i, .int j => some (.int (i - j))
  | _, _ => none
def strMul (x : Str) (k : Int) : Str := if k < 1 then Str.empty else if (k == 1 || x.length == 0) = true then x else ⟨(List.replicate k.toNat x.cps).foldl (· ++ ·) #[]⟩
def repOk (n : Nat) (k : Int) : Bool := decide (-(2 ^ 62) ≤ k) && decide (k < 2 ^ 62) && lineOk (n * k.toNat)
def iMul : IV → IV → Option IV
  | .int i, .int j => if mulOk i j then some (.int (i * j)) else none
  | .lst xs, .int k => if repOk xs.length k then some (.lst (List.replicate k.toNat xs).flatten) else none
  | .tup xs, .int k => if !xs.isEmpty && decide (2 ≤ k) && decide (k ≤ 1000) && Nat.ble xs.length 1000 then some (.tup (List.replicate k.toNat xs).flatten) else none
  | .str x, .int k => if repOk x.length k then some (.str (strMul x k)) else none
  | _, _ => none
def iFdiv : IV → IV → Option IV
  | .int i, .int j => if divOk j then some (.int (i.fdiv j)) else none
  | _, _ => none
def iMod : IV → IV → Option IV
  | .int i, .int j => if j == 0 then none else some (.int (i.fmod j))
  | _, _ => none
def iPow : IV → IV → Option IV
  | .int i, .int j => if powOk i j then some (.int (i ^ j.toNat)) else none
  | _, _ => none
def iBin : BOp → IV → IV → Option IV
  | .add => iAdd | .sub => iSub | .mul => iMul | .fdiv => iFdiv | .mod => iMod | .pow => iPow
end Mi

/-! Mi: what a tree stands for in the abstract heap of the hand layer -/
namespace Mi
open PySem L2

/-- who may write to an address: the store's object n, the frame's slot i, someone around -/
inductive Own where
  | hp (n : Nat) | sl (i : Nat) | fo | nw
abbrev Ow := Addr → Option Own
def H0 : Hp := fun _ => none

/-- what is fixed through a law: the written part, where the defs stand -/
structure Gd where
  K : PySem.W.Frag
  fad : Nat → Addr

section
variable (G : Gd) (ow : Ow) (H : Hp)
def TupAt (a : Addr) (vs : List V) : Prop := (Rd H a (.tup vs) ∧ ow a = none) ∨ SqT G.K H0 a vs
def ScrAt (a : Addr) (vs : List V) : Prop := (Rd H a (.lst vs) ∧ ow a = none) ∨ SqL G.K H0 a vs
def LstAt (a : Addr) (vs : List V) : Prop := H a = some (.lst vs) ∧ ow a = none
/-- the key of a dict -/
def kOf : IV → Option Key
  | .int i => some (.inl i)
  | .str x => some (.inr x)
  | _ => none
def kOfs : List IV → Option (List Key)
  | [] => some []
  | x :: xs => match kOf x, kOfs xs with
    | some k, some ks => some (k :: ks)
    | _, _ => none
def kOfT : IV → Option (List Key)
  | .tup xs => kOfs xs
  | _ => none
/-- the content of a dict's object -/
inductive DOb : Bool → List IV → List V → HO → Prop
  | k {ks : List IV} {vs : List V} (kvs : List (Key × V)) (h1 : ks.map kOf = kvs.map fun p => some p.1) (h2 : vs = kvs.map (·.2)) : DOb false ks vs (.dK kvs)
  | t {ks : List IV} {vs : List V} (kvs : List (List Key × V)) (h1 : ks.map kOfT = kvs.map fun p => some p.1) (h2 : vs = kvs.map (·.2)) : DOb true ks vs (.dT kvs)
mutual
inductive RepV : IV → V → Prop
  | non : RepV .non .non
  | bl (b : Bool) : RepV (.bl b) (.bl b)
  | int (i : Int) : RepV (.int i) (.int i)
  | str (x : Str) : RepV (.str x) (.str x)
  | ty (n : String) : RepV (.ty n) (.ty n)
  | fn (i : Nat) : RepV (.fn i) (.ref (G.fad i))
  | obj {n : Nat} {a : Addr} (h : ow a = some (.hp n)) : RepV (.obj n) (.ref a)
  | tup {a : Addr} {xs : List IV} {vs : List V} (h : TupAt G ow H a vs) (r : RepVs xs vs) : RepV (.tup xs) (.ref a)
  | lst {a : Addr} {xs : List IV} {vs : List V} (h : LstAt ow H a vs) (r : RepVs xs vs) : RepV (.lst xs) (.ref a)
  | scr {a : Addr} {xs : List IV} {vs : List V} (h : ScrAt G ow H a vs) (r : RepVs xs vs) : RepV (.scr xs) (.ref a)
  | dct {a : Addr} {t : Bool} {ks xs : List IV} {vs : List V} {o : HO} (h : Rd H a o) (n : ow a = none) (d : DOb t ks vs o) (r : RepVs xs vs) : RepV (.dct t ks xs) (.ref a)
inductive RepVs : List IV → List V → Prop
  | nil : RepVs [] []
  | cons {x : IV} {v : V} {xs : List IV} {vs : List V} (h : RepV x v) (t : RepVs xs vs) : RepVs (x :: xs) (v :: vs)
end

/-- the object at a is what the store has -/
inductive OAt : Addr → IO → Prop
  | lst {a : Addr} {xs : List IV} {vs : List V} (h : H a = some (.lst vs)) (r : RepVs G ow H xs vs) : OAt a (.lst xs)
  | dct {a : Addr} {t : Bool} {ks xs : List IV} {vs : List V} {o : HO} (h : H a = some o) (d : DOb t ks vs o) (r : RepVs G ow H xs vs) : OAt a (.dct t ks xs)

/-- the store -/
structure HRel (h : Sto) : Prop where
  wf : ∀ a o, ow a = some o → ∃ u, H a = some u
  ob : ∀ n o, h[n]? = some o → ∃ a, ow a = some (.hp n) ∧ OAt G ow H a o
  inj : ∀ n a b, ow a = some (.hp n) → ow b = some (.hp n) → a = b
  dom : ∀ n a, ow a = some (.hp n) → n < h.length
/-- what a slot holds -/
inductive SAt (i : Nat) : SV → V → Prop
  | v {x : IV} {y : V} (h : RepV G ow H x y) : SAt i (.v x) y
  | ol {a : Addr} {xs : List IV} {vs : List V} (o : ow a = some (.sl i)) (h : H a = some (.lst vs)) (r : RepVs G ow H xs vs) : SAt i (.ol xs) (.ref a)
  | od {a : Addr} {t : Bool} {ks xs : List IV} {vs : List V} {ob : HO} (o : ow a = some (.sl i)) (h : H a = some ob) (d : DOb t ks vs ob) (r : RepVs G ow H xs vs) : SAt i (.od t ks xs) (.ref a)
structure SRel (s : S) (σ : St) : Prop where
  hr : HRel G ow H s.h
  sl : ∀ i sv, s.r[i]? = some (some sv) → ∃ x, σ[i]? = some (some x) ∧ SAt G ow H i sv x
end

/-- from (ow, H) on to (ow', H') -/
structure Ext (ow : Ow) (H : Hp) (ow' : Ow) (H' : Hp) : Prop where
  keep : ∀ a o, H a = some o → ow a = none → H' a = some o ∧ ow' a = none
  fo : ∀ a, ow a = some .fo → ow' a = some .fo ∧ H' a = H a
  hp : ∀ a n, ow a = some (.hp n) → ow' a = some (.hp n)
theorem Ext.refl (ow : Ow) (H : Hp) : Ext ow H ow H := ⟨fun _ _ h n => ⟨h, n⟩, fun _ h => ⟨h, rfl⟩, fun _ _ h => h⟩
theorem Ext.trans {ow ow1 ow2 : Ow} {H H1 H2 : Hp} (a : Ext ow H ow1 H1) (b : Ext ow1 H1 ow2 H2) : Ext ow H ow2 H2 :=
  ⟨fun c o h n => let ⟨h1, n1⟩ := a.keep c o h n; b.keep c o h1 n1,
   fun c h => let ⟨h1, e1⟩ := a.fo c h; let ⟨h2, e2⟩ := b.fo c h1; ⟨h2, e2.trans e1⟩,
   fun c n h => b.hp c n (a.hp c n h)⟩
section
variable {G : Gd} {ow ow' : Ow} {H H' : Hp}
theorem Ext.rd (e : Ext ow H ow' H') {a : Addr} {u : HO} (r : Rd H a u) (n : ow a = none) : Rd H' a u ∧ ow' a = none := by
  rcases r with r | ⟨o, r⟩
  · obtain ⟨h1, h2⟩ := e.keep _ _ r n
    exact ⟨.inl h1, h2⟩
  · obtain ⟨h1, h2⟩ := e.keep _ _ r n
    exact ⟨.inr ⟨o, h1⟩, h2⟩
theorem TupAt.ext (e : Ext ow H ow' H') {a : Addr} {vs : List V} (h : TupAt G ow H a vs) : TupAt G ow' H' a vs := by
  rcases h with ⟨h, n⟩ | h
  · exact .inl (e.rd h n)
  · exact .inr h
theorem ScrAt.ext (e : Ext ow H ow' H') {a : Addr} {vs : List V} (h : ScrAt G ow H a vs) : ScrAt G ow' H' a vs := by
  rcases h with ⟨h, n⟩ | h
  · exact .inl (e.rd h n)
  · exact .inr h
theorem LstAt.ext (e : Ext ow H ow' H') {a : Addr} {vs : List V} (h : LstAt ow H a vs) : LstAt ow' H' a vs := e.keep _ _ h.1 h.2
mutual
theorem RepV.ext (e : Ext ow H ow' H') : ∀ {x : IV} {v : V}, RepV G ow H x v → RepV G ow' H' x v
  | _, _, .non => .non
  | _, _, .bl b => .bl b
  | _, _, .int i => .int i
  | _, _, .str x => .str x
  | _, _, .ty n => .ty n
  | _, _, .fn i => .fn i
  | _, _, .obj h => .obj (e.hp _ _ h)
  | _, _, .tup h r => .tup (h.ext e) (RepVs.ext e r)
  | _, _, .lst h r => .lst (h.ext e) (RepVs.ext e r)
  | _, _, .scr h r => .scr (h.ext e) (RepVs.ext e r)
  | _, _, .dct h n d r => .dct (e.rd h n).1 (e.rd h n).2 d (RepVs.ext e r)
theorem RepVs.ext (e : Ext ow H ow' H') : ∀ {xs : List IV} {vs : List V}, RepVs G ow H xs vs → RepVs G ow' H' xs vs
  | _, _, .nil => .nil
  | _, _, .cons h t => .cons (RepV.ext e h) (RepVs.ext e t)
end
theorem sqT_of {K : PySem.W.Frag} {a : Addr} {vs : List V} (h : SqT K H0 a vs) : SqT K H a vs := by
  rcases h with (h | ⟨o, h⟩) | h
  · cases h
  · cases h
  · exact .inr h
theorem sqL_of {K : PySem.W.Frag} {a : Addr} {vs : List V} (h : SqL K H0 a vs) : SqL K H a vs := by
  rcases h with (h | ⟨o, h⟩) | h
  · cases h
  · cases h
  · exact .inr h
theorem ScrAt.sq {a : Addr} {vs : List V} (h : ScrAt G ow H a vs) : SqL G.K H a vs := by
  rcases h with ⟨h, _⟩ | h
  · exact .inl h
  · exact sqL_of h
theorem TupAt.sq {a : Addr} {vs : List V} (h : TupAt G ow H a vs) : SqT G.K H a vs := by
  rcases h with ⟨h, _⟩ | h
  · exact .inl h
  · exact sqT_of h
theorem LstAt.sq {K : PySem.W.Frag} {a : Addr} {vs : List V} (h : LstAt ow H a vs) : SqL K H a vs := .inl (.inl h.1)

theorem RepVs.length : ∀ {xs : List IV} {vs : List V}, RepVs G ow H xs vs → xs.length = vs.length
  | _, _, .nil => rfl
  | _, _, .cons _ t => by rw [List.length_cons, List.length_cons, t.length]
theorem RepVs.get : ∀ {xs : List IV} {vs : List V} {i : Nat} {x : IV}, RepVs G ow H xs vs → xs[i]? = some x → ∃ v, vs[i]? = some v ∧ RepV G ow H x v
  | _, _, _, _, .nil, e => by simp at e
  | _, _, 0, _, .cons r _, e => by simp at e; subst e; exact ⟨_, rfl, r⟩
  | _, _, i + 1, x, .cons _ t, e => by
    obtain ⟨u, h1, h2⟩ := RepVs.get (i := i) (x := x) t (by simpa using e)
    exact ⟨u, by simpa using h1, h2⟩
theorem RepVs.append : ∀ {xs ys : List IV} {us ws : List V}, RepVs G ow H xs us → RepVs G ow H ys ws → RepVs G ow H (xs ++ ys) (us ++ ws)
  | _, _, _, _, .nil, s => s
  | _, _, _, _, .cons r t, s => .cons r (RepVs.append t s)
theorem RepVs.take : ∀ {xs : List IV} {us : List V} (n : Nat), RepVs G ow H xs us → RepVs G ow H (xs.take n) (us.take n)
  | _, _, 0, _ => .nil
  | _, _, _ + 1, .nil => .nil
  | _, _, n + 1, .cons r t => .cons r (RepVs.take n t)
theorem RepVs.drop : ∀ {xs : List IV} {us : List V} (n : Nat), RepVs G ow H xs us → RepVs G ow H (xs.drop n) (us.drop n)
  | _, _, 0, r => r
  | _, _, _ + 1, .nil => .nil
  | _, _, n + 1, .cons _ t => RepVs.drop n t
theorem RepVs.set {x : IV} {v : V} (r : RepV G ow H x v) : ∀ {xs : List IV} {vs : List V} (i : Nat), RepVs G ow H xs vs → RepVs G ow H (xs.set i x) (vs.set i v)
  | _, _, _, .nil => .nil
  | _, _, 0, .cons _ t => .cons r t
  | _, _, i + 1, .cons q t => .cons q (RepVs.set r i t)

/-! ### a new object -/
theorem HRel.fresh {h : Sto} (r : HRel G ow H h) {p : Addr} (hp : H p = none) : ow p = none := by
  cases e : ow p with
  | none => rfl
  | some o =>
    obtain ⟨u, hu⟩ := r.wf p o e
    rw [hp] at hu; cases hu
theorem ext_new {h : Sto} (r : HRel G ow H h) {p : Addr} (hp : H p = none) (o : HO) : Ext ow H ow (upd H p o) := by
  refine ⟨fun a u ha n => ⟨?_, n⟩, fun a ha => ⟨ha, ?_⟩, fun _ _ z => z⟩
  · rw [upd_ne (ne_of_none ha hp)]; exact ha
  · obtain ⟨u, hu⟩ := r.wf a _ ha
    rw [upd_ne (ne_of_none hu hp)]
theorem OAt.ext (e : Ext ow H ow' H') {a : Addr} {o : IO} (h : OAt G ow H a o) (k : H' a = H a) : OAt G ow' H' a o := by
  cases h with
  | lst h r => exact .lst (k.trans h) (r.ext e)
  | dct h d r => exact .dct (k.trans h) d (r.ext e)
theorem SAt.ext (e : Ext ow H ow' H') {i : Nat} {sv : SV} {x : V} (h : SAt G ow H i sv x) (k : ∀ a, ow a = some (.sl i) → ow' a = some (.sl i) ∧ H' a = H a) : SAt G ow' H' i sv x := by
  cases h with
  | v h => exact .v (h.ext e)
  | ol o h r => exact .ol (k _ o).1 ((k _ o).2.trans h) (r.ext e)
  | od o h d r => exact .od (k _ o).1 ((k _ o).2.trans h) d (r.ext e)
/-- a new tracked object that nobody owns -/
theorem HRel.new {h : Sto} (r : HRel G ow H h) {p : Addr} (hp : H p = none) (o : HO) : HRel G ow (upd H p o) h := by
  have e := ext_new r hp o
  have ne : ∀ a q, ow a = some q → upd H p o a = H a := fun a q ha => by
    obtain ⟨u, hu⟩ := r.wf a _ ha
    exact upd_ne (ne_of_none hu hp)
  refine ⟨fun a q ha => ?_, fun n ob hn => ?_, r.inj, r.dom⟩
  · rw [ne a q ha]; exact r.wf a q ha
  · obtain ⟨a, ha, hb⟩ := r.ob n ob hn
    exact ⟨a, ha, hb.ext e (ne a _ ha)⟩
theorem SRel.new {s : S} {σ : St} (r : SRel G ow H s σ) {p : Addr} (hp : H p = none) (o : HO) : SRel G ow (upd H p o) s σ := by
  have e := ext_new r.hr hp o
  refine ⟨r.hr.new hp o, fun i sv hi => ?_⟩
  obtain ⟨x, hx, hs⟩ := r.sl i sv hi
  refine ⟨x, hx, hs.ext e fun a ha => ⟨ha, ?_⟩⟩
  obtain ⟨u, hu⟩ := r.hr.wf a _ ha
  exact upd_ne (ne_of_none hu hp)
end
end Mi

/-! Mi: the core's syntax and its evaluator -/
namespace Mi
open PySem

/-- targets of loops and comprehensions -/
inductive TG where
  | nm (i : Nat) | tp (t : TG) | nil | cons (a b : TG)
  deriving DecidableEq

/-- built-in functions by name, and some written forms -/
inductive Blt where
  | len | int | abs | max2 | min2 | tuple | list | sum | all | any | repr | str | gcd
  | maxL | minL | sortedI | setsort
  deriving DecidableEq
/-- methods that change nothing -/
inductive Mth where
  | join | index | get1 | get2 | keys | values | items | count
  deriving DecidableEq

mutual
inductive CE where
  | var (i : Nat) | brw (i : Nat) | cst (v : IV) | glb (x : Str) (v : IV)
  | bin (op : BOp) (a b : CE) | neg (a : CE) | notV (a : CE) | cmp (op : COp) (a b : CE) | chn (o1 o2 : COp) (a b c : CE)
  | andV (a b : CE) | orV (a b : CE) | ife (t : CT) (a b : CE)
  | tup (es : CL) | idx (a b : CE) | sli (a lo hi : CE) | rev (a : CE)
  | call (x : Str) (f : Nat) (es : CL) | blt (b : Blt) (es : CL) | isi (a : CE) (ts : List String)
  | fr (m : Bool) (f : CF) | dnil
  | app (o e : CE) | ext (o e : CE) | pop (o : CE)
/-- what makes a new list -/
inductive CF where
  | dsp (es : CL)
  | lc (own : List (Str × Nat)) (tg : TG) (it : CI) (ifs : CT) (elt : CE)
  | lc2 (own : List (Str × Nat)) (tg : TG) (it : CI) (ifs : CT) (own1 : List Nat) (tg1 : TG) (it1 : CI) (ifs1 : CT) (elt : CE)
  | lof (a : CE) | rep (a b : CE) | cat (a b : CE) | sli (a lo hi : CE)
inductive CL where
  | nil | cons (a : CE) (l : CL)
inductive CT where
  | yes | val (a : CE) | not (t : CT) | and (a b : CT) | or (a b : CT)
inductive CI where
  | sq (a : CE) | rng1 (a : CE) | rng2 (a b : CE) | rng3 (a b c : CE) | enu (a : CE) | zip (a b : CE)
end

/-! ### values -/
mutual
def toD : IV → Option PyData
  | .non => some .none
  | .bl b => some (.bool b)
  | .int i => some (.int i)
  | .str x => some (.str x)
  | .tup xs => (toDs xs).map .tuple
  | .lst xs => (toDs xs).map .list
  | .scr xs => (toDs xs).map .list
  | _ => none
def toDs : List IV → Option (List PyData)
  | [] => some []
  | x :: xs => match toD x, toDs xs with
    | some d, some ds => some (d :: ds)
    | _, _ => none
end
def shp (x : IV) : Option PyData := match toD x with
  | some d => if SeqAt.shaped d then some d else none
  | none => none
/-- == -/
def iEqD (x y : IV) : Option Bool := match shp x, shp y with
  | some d, some e => some (PyData.eqv d e)
  | _, _ => none
def iEq (x y : IV) : Option Bool := match x, y with
  | .str a, .str b => some (a == b)
  | .int a, .int b => some (a == b)
  | _, _ => iEqD x y
def iIs (x y : IV) : Option Bool := match x, y with
  | .non, .non => some true
  | .bl a, .bl b => some (a == b)
  | .obj _, .non => some false
  | .int _, .non => some false
  | .bl _, .non => some false
  | .str _, .non => some false
  | .tup _, .non => some false
  | .lst _, .non => some false
  | .dct _ _ _, .non => some false
  | .fn _, .non => some false
  | _, _ => none
/-- < of ints, texts, tuples of alike things -/
def iIn (x y : IV) : Option Bool := match y with
  | .lst ys => match shp x, toDs ys with
    | some d, some ds => if SeqAt.shaped (.list ds) then some (ds.any fun z => PyData.eqv z d) else none
    | _, _ => none
  | .tup ys => match shp x, toDs ys with
    | some d, some ds => if SeqAt.shaped (.tuple ds) then some (ds.any fun z => PyData.eqv z d) else none
    | _, _ => none
  | .str z => match x with
    | .str w => some (!(Builtin.Str.occurrences z w 0 z.length 1).isEmpty)
    | _ => none
  | _ => none
def iLt (x y : IV) : Option Bool := match x, y with
  | .int i, .int j => some (decide (i < j))
  | .str i, .str j => some (decide (i.cps.toList < j.cps.toList))
  | .tup xs, .tup ys => match toDs xs, toDs ys with
    | some d, some e => if PySem.W.alike (.tuple d) (.tuple e) && Nat.ble (PyData.tuple d).depth 60 then some (PySem.W.dataLt (.tuple d) (.tuple e)) else none
    | _, _ => none
  | _, _ => none
def iGt (x y : IV) : Option Bool := match x, y with
  | .int i, .int j => some (decide (j < i))
  | .str i, .str j => some (decide (j.cps.toList < i.cps.toList))
  | _, _ => none
def iLe (x y : IV) : Option Bool := match x, y with
  | .int i, .int j => some (decide (i ≤ j))
  | .str i, .str j => some (!decide (j.cps.toList < i.cps.toList))
  | _, _ => none
def oNot : Option Bool → Option Bool
  | some b => some (!b)
  | none => none
def iCmp (op : COp) (x y : IV) : Option Bool := match op with
  | .eq => iEq x y
  | .ne => oNot (iEq x y)
  | .lt => iLt x y
  | .gt => iGt x y
  | .le => iLe x y
  | .ge => iLe y x
  | .is => iIs x y
  | .isnot => oNot (iIs x y)
  | .isin => iIn x y
  | .notin => oNot (iIn x y)
def iTruth : IV → Option Bool
  | .non => some false
  | .bl b => some b
  | .int i => some (i != 0)
  | .str x => if lineOk x.length then some ((x.length : Int) != 0) else none
  | .tup xs => some (!xs.isEmpty)
  | .lst xs => some (!xs.isEmpty)
  | .scr xs => some (!xs.isEmpty)
  | _ => none
def iNeg : IV → Option IV
  | .int i => some (.int (-i))
  | _ => none
def dFind {κ : Type} [BEq κ] (f : IV → Option κ) (k : κ) : List IV → List IV → Option IV
  | x :: ks, v :: vs => if f x == some k then some v else dFind f k ks vs
  | _, _ => none
def iIdx (x y : IV) : Option IV := match x, y with
  | .tup xs, .int i => L2.atI xs i
  | .lst xs, .int i => L2.atI xs i
  | .scr xs, .int i => L2.atI xs i
  | .str z, .int i => if lineOk z.length then (match L2.atI z.cps.toList i with
    | some c => some (.str ⟨#[c]⟩)
    | none => none) else none
  | _, _ => none
def ofI : IV → Option (Option Int)
  | .non => some none
  | .int i => some (some i)
  | _ => none
def cutI {α : Type} (xs : List α) (lo hi : Option Int) : List α := (xs.drop (HT.sIx xs.length 0 lo)).take (HT.sIx xs.length xs.length hi - HT.sIx xs.length 0 lo)
def iSli (x lo hi : IV) : Option IV := match ofI lo, ofI hi with
  | some l, some h => match x with
    | .tup xs => some (.tup (cutI xs l h))
    | .lst xs => some (.lst (cutI xs l h))
    | .scr xs => some (.lst (cutI xs l h))
    | .str z => if lineOk z.length then some (.str (L2.cutS z l h)) else none
    | _ => none
  | _, _ => none
def iRev : IV → Option IV
  | .lst xs => some (.lst xs.reverse)
  | _ => none
def intsOf : List IV → Option (List Int)
  | [] => some []
  | .int i :: xs => (intsOf xs).map (i :: ·)
  | _ => none
def blsOf : List IV → Option (List Bool)
  | [] => some []
  | .bl i :: xs => (blsOf xs).map (i :: ·)
  | _ => none
def strsOf : List IV → Option (List Str)
  | [] => some []
  | .str i :: xs => (strsOf xs).map (i :: ·)
  | _ => none
def iLen : IV → Option IV
  | .tup xs => some (.int xs.length)
  | .lst xs => some (.int xs.length)
  | .scr xs => some (.int xs.length)
  | .str z => if lineOk z.length then some (.int z.length) else none
  | _ => none
def iRepr (x : IV) : Option IV := match toD x with
  | some d => if d.showable && Nat.ble d.depth 60 && lineOk d.shown.length then some (.str d.shown) else none
  | none => none
def iBlt (b : Blt) (xs : List IV) : Option IV := match b, xs with
  | .len, [x] => iLen x
  | .int, [.int i] => some (.int i)
  | .int, [.bl k] => some (.int (if k then 1 else 0))
  | .abs, [.int i] => some (.int (if i < 0 then -i else i))
  | .max2, [.int i, .int j] => some (.int (if j > i then j else i))
  | .min2, [.int i, .int j] => some (.int (if j < i then j else i))
  | .tuple, [.tup xs] => some (.tup xs)
  | .tuple, [.lst xs] => some (.tup xs)
  | .list, [.tup xs] => some (.lst xs)
  | .list, [.lst xs] => some (.lst xs)
  | .sum, [.lst xs] => (intsOf xs).map fun ns => .int ns.sum
  | .all, [.lst xs] => (blsOf xs).map fun bs => .bl (bs.all id)
  | .any, [.lst xs] => (blsOf xs).map fun bs => .bl (bs.any id)
  | .repr, [x] => iRepr x
  | .str, [.int i] => if Nat.blt i.natAbs.log2 1920 then some (.str (toString i)) else none
  | .str, [.tup xs] => iRepr (.tup xs)
  | .gcd, [.int i, .int j] => some (.int (Int.gcd i j))
  | _, _ => none

/-- which of some classes a value is of -/
def isOf (x : IV) (T : String) : Option Bool := match x with
  | .non => some false
  | .bl _ => some (T == "bool" || T == "int")
  | .int _ => some (T == "int")
  | .str _ => some (T == "str")
  | .tup _ => some (T == "tuple")
  | .lst _ => some (T == "list")
  | .dct false _ _ => some (T == "dict")
  | _ => none

/-! ### states -/
def getS (i : Nat) (r : Rho) : Option SV := match r[i]? with
  | some (some v) => some v
  | _ => none
/-- a name is read as a value: what only it knew is frozen -/
def rdV (i : Nat) (s : S) : R IV := match getS i s.r with
  | some (.v x) => .ok x s
  | some (.ol xs) => .ok (.lst xs) ⟨s.r.set i (some (.v (.lst xs))), s.h⟩
  | some (.od t ks vs) => .ok (.dct t ks vs) ⟨s.r.set i (some (.v (.dct t ks vs))), s.h⟩
  | none => .bad
def deref (h : Sto) (x : IV) : IV := match x with
  | .obj n => match h[n]? with
    | some (.lst xs) => .lst xs
    | some (.dct t ks vs) => .dct t ks vs
    | none => x
  | _ => x
/-- what a borrowed name holds -/
def brwV (i : Nat) (s : S) : Option IV := match getS i s.r with
  | some (.v x) => some (deref s.h x)
  | some (.ol xs) => some (.lst xs)
  | some (.od t ks vs) => some (.dct t ks vs)
  | none => none
/-- an operand, when it is looked at -/
def late (c : CE) (v : IV) (s : S) : Option IV := match c with
  | .brw i => brwV i s
  | _ => some (deref s.h v)
def wipeR (r : Rho) : List Nat → Rho
  | [] => r
  | v :: vs => (wipeR r vs).set v none
def backR (r0 r : Rho) : List Nat → Rho
  | [] => r
  | v :: vs => (backR r0 r vs).set v (match r0[v]? with | some (some (.v x)) => some (.v x) | _ => none)
/-- a target takes a value -/
def asgT : TG → List IV → Rho → Option Rho
  | .nm i, [x], r => some (r.set i (some (.v x)))
  | .tp t, [.tup xs], r => asgT t xs r
  | .nil, [], r => some r
  | .cons a b, x :: xs, r => match asgT a [x] r with
    | some r1 => asgT b xs r1
    | none => none
  | _, _, _ => none
def noExc {α : Type} : R α → R α
  | .ok a s => .ok a s
  | _ => .bad
/-- the turns of a comprehension -/
def loopL (f : IV → S → R (List IV)) : List IV → S → R (List IV)
  | [], s => .ok [] s
  | x :: xs, s => (f x s).bind fun y s1 => (loopL f xs s1).bind fun ys s2 => .ok (y ++ ys) s2
def ofB (o : Option Bool) (s : S) : R Bool := ofO o s
def rngL (lo : Int) (n : Nat) : List IV := (List.range n).map fun (i : Nat) => IV.int (lo + i)
def enuL (k : Nat) : List IV → List IV
  | [] => []
  | x :: xs => .tup [.int k, x] :: enuL (k + 1) xs
def zipL : List IV → List IV → List IV
  | x :: xs, y :: ys => .tup [x, y] :: zipL xs ys
  | _, _ => []
def seqL : IV → Option (List IV)
  | .lst xs => some xs
  | .scr xs => some xs
  | .tup xs => some xs
  | .str z => some (z.cps.toList.map fun c => .str ⟨#[c]⟩)
  | _ => none
def far (i : Int) : Bool := decide (-(2 ^ 62) ≤ i) && decide (i < 2 ^ 62)
def rng3L (a b c : Int) : Option (List IV) := if far a && far b && !(c == 0) && decide (c.natAbs < 2 ^ 30) then
    some ((List.range (if c > 0 then ((b - a + c - 1) / c).toNat else ((a - b - c - 1) / (-c)).toNat)).map fun (i : Nat) => IV.int (a + i * c))
  else none
def newH (x : IV) (s : S) : R IV := match x with
  | .lst xs => .ok (.obj s.h.length) ⟨s.r, s.h ++ [.lst xs]⟩
  | .dct t ks vs => .ok (.obj s.h.length) ⟨s.r, s.h ++ [.dct t ks vs]⟩
  | _ => .bad
/-- the list that a method changes: a name's own, or one of the store -/
def lsAt (c : CE) (v : IV) (s : S) : Option (List IV) := match c with
  | .brw i => match getS i s.r with
    | some (.ol xs) => some xs
    | some (.v (.obj n)) => match s.h[n]? with
      | some (.lst xs) => some xs
      | _ => none
    | _ => none
  | _ => match v with
    | .obj n => match s.h[n]? with
      | some (.lst xs) => some xs
      | _ => none
    | _ => none
def lsPut (c : CE) (v : IV) (xs : List IV) (s : S) : S := match c with
  | .brw i => match getS i s.r with
    | some (.ol _) => ⟨s.r.set i (some (.ol xs)), s.h⟩
    | some (.v (.obj n)) => ⟨s.r, s.h.set n (.lst xs)⟩
    | _ => s
  | _ => match v with
    | .obj n => ⟨s.r, s.h.set n (.lst xs)⟩
    | _ => s
def lateL : CL → List IV → S → Option (List IV)
  | .nil, [], _ => some []
  | .cons c l, x :: xs, s => match late c x s, lateL l xs s with
    | some y, some ys => some (y :: ys)
    | _, _ => none
  | _, _, _ => none
def isoL (x : IV) : List String → Option Bool
  | [] => some false
  | T :: ts => match isOf x T with
    | some true => some true
    | some false => isoL x ts
    | none => none

def isNon : CE → Bool
  | .cst .non => true
  | _ => false
/-- a slice's part: left out, or an int -/
def okP (c : CE) (v : IV) : Bool := isNon c || match v with
  | .int _ => true
  | _ => false
def chkP (c : CE) (v : IV) (s : S) : R IV := if okP c v then .ok v s else .bad
/-! ### the evaluator -/
section
variable (cl : Nat → List IV → Sto → Rc)
mutual
def evE : CE → S → R IV
  | .var i, s => rdV i s
  | .brw i, s => match getS i s.r with
    | some _ => .ok .non s
    | none => .bad
  | .cst v, s => .ok v s
  | .glb _ v, s => .ok v s
  | .bin op a b, s => (evE a s).bind fun x s1 => (evE b s1).bind fun y s2 => match late a x s2, late b y s2 with
    | some x', some y' => ofO (iBin op x' y') s2
    | _, _ => .bad
  | .neg a, s => (evE a s).bind fun x s1 => ofO (iNeg x) s1
  | .notV a, s => (evE a s).bind fun x s1 => match late a x s1 with
    | some x' => match iTruth x' with
      | some b => .ok (.bl (!b)) s1
      | none => .bad
    | none => .bad
  | .cmp op a b, s => (evE a s).bind fun x s1 => (evE b s1).bind fun y s2 => match late a x s2, late b y s2 with
    | some x', some y' => match iCmp op x' y' with
      | some k => .ok (.bl k) s2
      | none => .bad
    | _, _ => .bad
  | .chn o1 o2 a b c, s => (evE a s).bind fun x s1 => (evE b s1).bind fun y s2 => match iCmp o1 x y with
    | some true => (evE c s2).bind fun z s3 => match iCmp o2 y z with
      | some k => .ok (.bl k) s3
      | none => .bad
    | some false => .ok (.bl false) s2
    | none => .bad
  | .andV a b, s => (evE a s).bind fun x s1 => match iTruth (deref s1.h x) with
    | some true => evE b s1
    | some false => .ok x s1
    | none => .bad
  | .orV a b, s => (evE a s).bind fun x s1 => match iTruth (deref s1.h x) with
    | some false => evE b s1
    | some true => .ok x s1
    | none => .bad
  | .ife t a b, s => (evT t s).bind fun k s1 => if k then evE a s1 else evE b s1
  | .tup es, s => (evL es s).bind fun xs s1 => if lineOk xs.length then .ok (.tup xs) s1 else .bad
  | .idx a b, s => (evE a s).bind fun x s1 => (evE b s1).bind fun y s2 => match late a x s2 with
    | some x' => ofO (iIdx x' y) s2
    | none => .bad
  | .sli a lo hi, s => (evE a s).bind fun x s1 => ((evE lo s1).bind (chkP lo)).bind fun l s2 => ((evE hi s2).bind (chkP hi)).bind fun h s3 => match late a x s3 with
    | some x' => ofO (iSli x' l h) s3
    | none => .bad
  | .rev a, s => (evE a s).bind fun x s1 => match late a x s1 with
    | some x' => ofO (iRev x') s1
    | none => .bad
  | .call _ f es, s => (evL es s).bind fun xs s1 => match cl f xs s1.h with
    | .ok v h => .ok v ⟨s1.r, h⟩
    | .exc e h => .exc e ⟨s1.r, h⟩
    | .bad => .bad
  | .blt b es, s => (evL es s).bind fun xs s1 => match lateL es xs s1 with
    | some ys => ofO (iBlt b ys) s1
    | none => .bad
  | .isi a ts, s => (evE a s).bind fun x s1 => match isoL (deref s1.h x) ts with
    | some k => .ok (.bl k) s1
    | none => .bad
  | .dnil, s => .ok (.dct false [] []) s
  | .fr m f, s => (evF f s).bind fun xs s1 => if m then newH (.lst xs) s1 else .ok (.lst xs) s1
  | .app o e, s => (evE o s).bind fun x s1 => match lsAt o x s1 with
    | some _ => (evE e s1).bind fun y s2 => match lsAt o x s2 with
      | some xs => if Nat.blt xs.length sizeLine then .ok .non (lsPut o x (xs ++ [y]) s2) else .bad
      | none => .bad
    | none => .bad
  | .ext o e, s => (evE o s).bind fun x s1 => match lsAt o x s1 with
    | some _ => (evE e s1).bind fun y s2 => match lsAt o x s2, late e y s2 with
      | some xs, some (.lst ys) => if lineOk (xs.length + ys.length) then .ok .non (lsPut o x (xs ++ ys) s2) else .bad
      | _, _ => .bad
    | none => .bad
  | .pop o, s => (evE o s).bind fun x s1 => match lsAt o x s1 with
    | some xs => match xs[xs.length - 1]? with
      | some y => .ok y (lsPut o x xs.dropLast s1)
      | none => .bad
    | none => .bad
def evF : CF → S → R (List IV)
  | .dsp es, s => (evL es s).bind fun xs s1 => if lineOk xs.length then .ok xs s1 else .bad
  | .lc own tg it ifs elt, s => (evI it s).bind fun xs s1 =>
    (noExc (loopL (fun x s2 => match asgT tg [x] (wipeR s2.r (own.map (·.2))) with
      | some r => (evT ifs ⟨r, s2.h⟩).bind fun k s3 => if k then (evE elt s3).bind fun y s4 => .ok [y] s4 else .ok [] s3
      | none => .bad) xs ⟨wipeR s1.r (own.map (·.2)), s1.h⟩)).bind fun ys s5 =>
    if lineOk ys.length then .ok ys ⟨backR s1.r s5.r (own.map (·.2)), s5.h⟩ else .bad
  | .lc2 own tg it ifs own1 tg1 it1 ifs1 elt, s => (evI it s).bind fun xs s1 =>
    (noExc (loopL (fun x s2 => match asgT tg [x] (wipeR s2.r (own.map (·.2))) with
      | some r => (evT ifs ⟨r, s2.h⟩).bind fun k s3 => if k then (evI it1 s3).bind fun zs s4 =>
          loopL (fun z s6 => match asgT tg1 [z] (wipeR s6.r own1) with
            | some r1 => (evT ifs1 ⟨r1, s6.h⟩).bind fun k1 s7 => if k1 then (evE elt s7).bind fun y s8 => .ok [y] s8 else .ok [] s7
            | none => .bad) zs s4 else .ok [] s3
      | none => .bad) xs ⟨wipeR s1.r (own.map (·.2)), s1.h⟩)).bind fun ys s5 =>
    if lineOk ys.length then .ok ys ⟨backR s1.r s5.r (own.map (·.2)), s5.h⟩ else .bad
  | .lof a, s => (evE a s).bind fun x s1 => match late a x s1 with
    | some (.tup xs) => .ok xs s1
    | some (.lst xs) => .ok xs s1
    | _ => .bad
  | .rep a b, s => (evE a s).bind fun x s1 => (evE b s1).bind fun y s2 => match late a x s2, late b y s2 with
    | some (.lst xs), some (.int k) => if repOk xs.length k then .ok (List.replicate k.toNat xs).flatten s2 else .bad
    | _, _ => .bad
  | .cat a b, s => (evE a s).bind fun x s1 => (evE b s1).bind fun y s2 => match late a x s2, late b y s2 with
    | some (.lst xs), some (.lst ys) => if lineOk (xs.length + ys.length) then .ok (xs ++ ys) s2 else .bad
    | _, _ => .bad
  | .sli a lo hi, s => (evE a s).bind fun x s1 => ((evE lo s1).bind (chkP lo)).bind fun l s2 => ((evE hi s2).bind (chkP hi)).bind fun h s3 => match late a x s3, ofI l, ofI h with
    | some (.lst xs), some l', some h' => .ok (cutI xs l' h') s3
    | some (.scr xs), some l', some h' => .ok (cutI xs l' h') s3
    | _, _, _ => .bad
def evL : CL → S → R (List IV)
  | .nil, s => .ok [] s
  | .cons a l, s => (evE a s).bind fun x s1 => (evL l s1).bind fun xs s2 => .ok (x :: xs) s2
def evT : CT → S → R Bool
  | .yes, s => .ok true s
  | .val a, s => (evE a s).bind fun x s1 => match late a x s1 with
    | some x' => ofO (iTruth x') s1
    | none => .bad
  | .not t, s => (evT t s).bind fun k s1 => .ok (!k) s1
  | .and a b, s => (evT a s).bind fun k s1 => if k then evT b s1 else .ok false s1
  | .or a b, s => (evT a s).bind fun k s1 => if k then .ok true s1 else evT b s1
def evI : CI → S → R (List IV)
  | .sq a, s => (evE a s).bind fun x s1 => ofO (seqL x) s1
  | .rng1 a, s => (evE a s).bind fun x s1 => match x with
    | .int j => if far j then .ok (rngL 0 j.toNat) s1 else .bad
    | _ => .bad
  | .rng2 a b, s => (evE a s).bind fun x s1 => (evE b s1).bind fun y s2 => match x, y with
    | .int i, .int j => if far i && far j then .ok (rngL i (j - i).toNat) s2 else .bad
    | _, _ => .bad
  | .rng3 a b c, s => (evE a s).bind fun x s1 => (evE b s1).bind fun y s2 => (evE c s2).bind fun z s3 => match x, y, z with
    | .int i, .int j, .int k => ofO (rng3L i j k) s3
    | _, _, _ => .bad
  | .enu a, s => (evE a s).bind fun x s1 => match x with
    | .lst xs => .ok (enuL 0 xs) s1
    | .tup xs => .ok (enuL 0 xs) s1
    | _ => .bad
  | .zip a b, s => (evE a s).bind fun x s1 => (evE b s1).bind fun y s2 => match x, y with
    | .lst xs, .lst ys => .ok (zipL xs ys) s2
    | .tup xs, .tup ys => .ok (zipL xs ys) s2
    | .lst xs, .tup ys => .ok (zipL xs ys) s2
    | .tup xs, .lst ys => .ok (zipL xs ys) s2
    | _, _ => .bad
end
end
end Mi

/-! Mi: the evaluator's results as the hand layer's readings -/
namespace Mi
open PySem L2

/-- read as: frozen or not -/
inductive RepB (G : Gd) (ow : Ow) (H : Hp) : IV → V → Prop
  | of {x : IV} {v : V} (h : RepV G ow H x v) : RepB G ow H x v
  | lst {a : Addr} {xs : List IV} {vs : List V} (h : H a = some (.lst vs)) (r : RepVs G ow H xs vs) : RepB G ow H (.lst xs) (.ref a)
  | dct {a : Addr} {t : Bool} {ks xs : List IV} {vs : List V} {o : HO} (h : Rd H a o) (d : DOb t ks vs o) (r : RepVs G ow H xs vs) : RepB G ow H (.dct t ks xs) (.ref a)
/-- one more object, or none -/
def Grow (H H' : Hp) : Prop := H' = H ∨ ∃ p o, H p = none ∧ H' = upd H p o
section
variable {G : Gd} {ow ow' : Ow} {H H' : Hp}
theorem Grow.refl : Grow H H := .inl rfl
theorem Grow.new {p : Addr} (h : H p = none) (o : HO) : Grow H (upd H p o) := .inr ⟨p, o, h, rfl⟩
theorem Grow.ext (g : Grow H H') {h : Sto} (r : HRel G ow H h) : Ext ow H ow H' := by
  rcases g with rfl | ⟨p, o, hp, rfl⟩
  · exact .refl _ _
  · exact ext_new r hp o
theorem Grow.srel (g : Grow H H') {s : S} {σ : L2.St} (r : SRel G ow H s σ) : SRel G ow H' s σ := by
  rcases g with rfl | ⟨p, o, hp, rfl⟩
  · exact r
  · exact r.new hp o
theorem RepV.deref {h : Sto} (r : HRel G ow H h) {x : IV} {v : V} (q : RepV G ow H x v) : RepB G ow H (deref h x) v := by
  unfold Mi.deref
  split
  · rename_i n
    cases q with
    | obj ho =>
      split
      · rename_i xs e
        obtain ⟨a, h1, h2⟩ := r.ob _ _ e
        cases r.inj _ _ _ h1 ho
        cases h2 with
        | lst h2 r2 => exact .lst h2 r2
      · rename_i t ks vs e
        obtain ⟨a, h1, h2⟩ := r.ob _ _ e
        cases r.inj _ _ _ h1 ho
        cases h2 with
        | dct h2 d r2 => exact .dct (.inl h2) d r2
      · exact .of (.obj ho)
  · exact .of q
theorem RepB.sqL {x : List IV} {v : V} (h : RepB G ow H (.lst x) v) : ∃ a vs, v = .ref a ∧ H a = some (.lst vs) ∧ RepVs G ow H x vs := by
  cases h with
  | of h => cases h with
    | lst h r => exact ⟨_, _, rfl, h.1, r⟩
  | lst h r => exact ⟨_, _, rfl, h, r⟩
theorem RepB.sqT {x : List IV} {v : V} (h : RepB G ow H (.tup x) v) : ∃ a vs, v = .ref a ∧ TupAt G ow H a vs ∧ RepVs G ow H x vs := by
  cases h with
  | of h => cases h with
    | tup h r => exact ⟨_, _, rfl, h, r⟩
theorem RepB.int {i : Int} {v : V} (h : RepB G ow H (.int i) v) : v = .int i := by
  cases h with
  | of h => cases h; rfl
theorem RepB.bl {i : Bool} {v : V} (h : RepB G ow H (.bl i) v) : v = .bl i := by
  cases h with
  | of h => cases h; rfl
theorem RepB.str {i : Str} {v : V} (h : RepB G ow H (.str i) v) : v = .str i := by
  cases h with
  | of h => cases h; rfl
theorem RepB.non {v : V} (h : RepB G ow H .non v) : v = .non := by
  cases h with
  | of h => cases h; rfl

/-- an operand and what the hand layer has for it -/
def VRel (G : Gd) (σ : L2.St) (c : CE) (ow : Ow) (H : Hp) (v : IV) (x : V) : Prop := match c with
  | .brw i => σ[i]? = some (some x)
  | _ => RepV G ow H v x
theorem VRel.ext {σ : L2.St} {c : CE} {v : IV} {x : V} (e : Ext ow H ow' H') (h : VRel G σ c ow H v x) : VRel G σ c ow' H' v x := by
  cases c <;> first | exact h | exact RepV.ext e h
def isBrw : CE → Bool
  | .brw _ => true
  | _ => false
theorem VRel.rep {σ : L2.St} {c : CE} {v : IV} {x : V} (h : VRel G σ c ow H v x) (n : isBrw c = false) : RepV G ow H v x := by
  cases c <;> first | exact h | cases n
theorem VRel.of {σ : L2.St} {c : CE} {v : IV} {x : V} (h : RepV G ow H v x) (n : isBrw c = false) : VRel G σ c ow H v x := by
  cases c <;> first | exact h | cases n
theorem getS_some {i : Nat} {r : Rho} {sv : SV} (h : getS i r = some sv) : r[i]? = some (some sv) := by
  unfold getS at h
  split at h
  · rename_i e; cases h; exact e
  · cases h
theorem late_rep {σ : L2.St} {c : CE} {v v' : IV} {x : V} {s : S} (SR : SRel G ow H s σ) (h : VRel G σ c ow H v x) (e : late c v s = some v') : RepB G ow H v' x := by
  unfold late at e
  unfold VRel at h
  split at e
  · rename_i i
    simp only at h
    unfold brwV at e
    split at e
    · rename_i y e1
      obtain ⟨x', h1, h2⟩ := SR.sl _ _ (getS_some e1)
      rw [h] at h1; cases h1
      cases e
      cases h2 with
      | v h2 => exact h2.deref SR.hr
    · rename_i xs e1
      obtain ⟨x', h1, h2⟩ := SR.sl _ _ (getS_some e1)
      rw [h] at h1; cases h1
      cases e
      cases h2 with
      | ol o h2 r => exact .lst h2 r
    · rename_i t ks vs e1
      obtain ⟨x', h1, h2⟩ := SR.sl _ _ (getS_some e1)
      rw [h] at h1; cases h1
      cases e
      cases h2 with
      | od o h2 d r => exact .dct (.inl h2) d r
    · cases e
  · rename_i hn
    cases e
    split at h
    · exact absurd rfl (hn _)
    · exact h.deref SR.hr

/-! ### ends -/
/-- an exception and what the hand layer has for it -/
structure Gx where
  cls : Nat → Value
  fld : Nat → Str
def ERel (G : Gd) (gx : Gx) (ow : Ow) (H : Hp) (e : Ex) (c : Value) (d : Option Addr) : Prop :=
  c = gx.cls e.cls ∧ match e.arg with
    | none => d = none
    | some v => ∃ a x, d = some a ∧ H a = some (.xd [(gx.fld e.cls, x)]) ∧ ow a = none ∧ RepV G ow H v x
def Po {α β : Type} (G : Gd) (gx : Gx) (W : WX) (σ : L2.St) (vr : Ow → Hp → α → β → Prop) (Q : β → Hp → Prop) (ow : Ow) (H : Hp) : R α → Prop
  | .ok a s => ∀ ow' H' b, Ext ow H ow' H' → SRel G ow' H' s σ → vr ow' H' a b → Q b H'
  | .exc e s => ∀ ow' H' c d, Ext ow H ow' H' → SRel G ow' H' s σ → ERel G gx ow' H' e c d → W c d σ H'
  | .bad => False
variable {gx : Gx} {W : WX} {σ : L2.St}
theorem Po.ext {α β : Type} {vr : Ow → Hp → α → β → Prop} {Q : β → Hp → Prop} {r : R α} (h : Po G gx W σ vr Q ow H r) (e : Ext ow H ow' H') : Po G gx W σ vr Q ow' H' r := by
  cases r with
  | ok a s => exact fun ow2 H2 b e2 => h ow2 H2 b (e.trans e2)
  | exc x s => exact fun ow2 H2 c d e2 => h ow2 H2 c d (e.trans e2)
  | bad => exact h
theorem Po.step {α β γ δ : Type} {vr : Ow → Hp → γ → δ → Prop} {Q : δ → Hp → Prop} {r : R α} {f : α → S → R γ} (h : Po G gx W σ vr Q ow H (r.bind f))
    {vr1 : Ow → Hp → α → β → Prop} {Q1 : β → Hp → Prop}
    (k : ∀ a s ow1 H1 b, Ext ow H ow1 H1 → SRel G ow1 H1 s σ → vr1 ow1 H1 a b → Po G gx W σ vr Q ow1 H1 (f a s) → Q1 b H1) : Po G gx W σ vr1 Q1 ow H r := by
  cases r with
  | ok a s => exact fun ow1 H1 b e1 S1 r1 => k a s ow1 H1 b e1 S1 r1 (Po.ext h e1)
  | exc x s => exact h
  | bad => exact h
theorem Po.fin {α β : Type} {vr : Ow → Hp → α → β → Prop} {Q : β → Hp → Prop} {a : α} {s : S} (h : Po G gx W σ vr Q ow H (.ok a s)) (SR : SRel G ow H s σ) {b : β} (r : vr ow H a b) : Q b H :=
  h ow H b (.refl _ _) SR r
theorem Po.grow {α β : Type} {vr : Ow → Hp → α → β → Prop} {Q : β → Hp → Prop} {a : α} {s : S} (h : Po G gx W σ vr Q ow H (.ok a s)) (SR : SRel G ow H s σ) {b : β} (g : Grow H H') (r : vr ow H' a b) : Q b H' :=
  h ow H' b (g.ext SR.hr) (g.srel SR) r
end

/-! ### readings -/
section
variable (G : Gd) (gx : Gx) (cl : Nat → List IV → Sto → Rc) (W : WX)
def tE (c : CE) : TE := fun σ H Q => ∃ ow s, SRel G ow H s σ ∧ Po G gx W σ (VRel G σ c) Q ow H (evE cl c s)
/-- operands in a row -/
inductive VRels (G : Gd) (σ : L2.St) (ow : Ow) (H : Hp) : CL → List IV → List V → Prop
  | nil : VRels G σ ow H .nil [] []
  | cons {c : CE} {l : CL} {x : IV} {v : V} {xs : List IV} {vs : List V} (h : VRel G σ c ow H x v) (t : VRels G σ ow H l xs vs) : VRels G σ ow H (.cons c l) (x :: xs) (v :: vs)
def vrF (G : Gd) : Ow → Hp → List IV → V → Prop := fun ow H xs v => ∃ p vs, v = .ref p ∧ H p = some (.lst vs) ∧ ow p = some .nw ∧ RepVs G ow H xs vs
def tF (c : CF) : TE := fun σ H Q => ∃ ow s, SRel G ow H s σ ∧ Po G gx W σ (vrF G) Q ow H (evF cl c s)
def tL (c : CL) : TA := fun σ H Q => ∃ ow s, SRel G ow H s σ ∧ Po G gx W σ (fun ow H => VRels G σ ow H c) Q ow H (evL cl c s)
def tT (c : CT) : TT := fun σ H Q => ∃ ow s, SRel G ow H s σ ∧ Po G gx W σ (fun _ _ a b => a = b) Q ow H (evT cl c s)
end
theorem VRels.ext {G : Gd} {σ : L2.St} {ow ow' : Ow} {H H' : Hp} (e : Ext ow H ow' H') : ∀ {c : CL} {xs : List IV} {vs : List V}, VRels G σ ow H c xs vs → VRels G σ ow' H' c xs vs
  | _, _, _, .nil => .nil
  | _, _, _, .cons h t => .cons (h.ext e) (VRels.ext e t)
def noBrw : CL → Bool
  | .nil => true
  | .cons c l => !isBrw c && noBrw l
theorem VRels.reps {G : Gd} {σ : L2.St} {ow : Ow} {H : Hp} : ∀ {c : CL} {xs : List IV} {vs : List V}, VRels G σ ow H c xs vs → noBrw c = true → RepVs G ow H xs vs
  | _, _, _, .nil, _ => .nil
  | _, _, _, .cons h t, n => by
    unfold noBrw at n
    rw [Bool.and_eq_true] at n
    exact .cons (h.rep (by simpa using n.1)) (t.reps n.2)
inductive RepBs (G : Gd) (ow : Ow) (H : Hp) : List IV → List V → Prop
  | nil : RepBs G ow H [] []
  | cons {x : IV} {v : V} {xs : List IV} {vs : List V} (h : RepB G ow H x v) (t : RepBs G ow H xs vs) : RepBs G ow H (x :: xs) (v :: vs)
theorem lateL_reps {G : Gd} {σ : L2.St} {ow : Ow} {H : Hp} {s : S} (SR : SRel G ow H s σ) : ∀ {c : CL} {xs ys : List IV} {vs : List V}, VRels G σ ow H c xs vs → lateL c xs s = some ys → RepBs G ow H ys vs
  | _, _, _, _, .nil, e => by
    unfold lateL at e
    cases e
    exact .nil
  | _, _, _, _, .cons h t, e => by
    unfold lateL at e
    split at e
    · rename_i y ys e1 e2
      cases e
      exact .cons (late_rep SR h e1) (lateL_reps SR t e2)
    · cases e

theorem PE.weak {X : Cx} {e : Expr} {t t' : TE} (h : PE X e t) (k : ∀ σ H Q, t' σ H Q → t σ H Q) : PE X e t' := ⟨fun pins s σ H Q I hw => h.run pins s σ H Q I (k σ H Q hw)⟩
theorem PA.weak {X : Cx} {e : List Expr} {t t' : TA} (h : PA X e t) (k : ∀ σ H Q, t' σ H Q → t σ H Q) : PA X e t' := ⟨fun pos pins s σ H Q I hw => h.run pos pins s σ H Q I (k σ H Q hw)⟩
theorem PT.weak {X : Cx} {e : Expr} {t t' : TT} (h : PT X e t) (k : ∀ σ H Q, t' σ H Q → t σ H Q) : PT X e t' := ⟨fun pins s σ H Q I hw => h.run pins s σ H Q I (k σ H Q hw)⟩
theorem PW.weak {X : Cx} {e : Expr} {t t' : TT} (h : PW X e t) (k : ∀ σ H Q, t' σ H Q → t σ H Q) : PW X e t' := ⟨fun wh pins s σ H Q I hw => h.run wh pins s σ H Q I (k σ H Q hw)⟩
end Mi

/-! Mi: the operators on values, over the hand layer -/
namespace Mi
open PySem L2 PyProof.Rows

section
variable {X : Cx} {G : Gd} {ow : Ow} {H : Hp} {h : Sto}
theorem new_tup {p : Addr} {xs : List IV} {vs : List V} (r : HRel G ow H h) (hp : H p = none) (q : RepVs G ow H xs vs) : RepV G ow (upd H p (.tup vs)) (.tup xs) (.ref p) :=
  .tup (.inl ⟨.inl upd_same, r.fresh hp⟩) (q.ext (ext_new r hp _))
theorem new_lst {p : Addr} {xs : List IV} {vs : List V} (r : HRel G ow H h) (hp : H p = none) (q : RepVs G ow H xs vs) : RepV G ow (upd H p (.lst vs)) (.lst xs) (.ref p) :=
  .lst ⟨upd_same, r.fresh hp⟩ (q.ext (ext_new r hp _))
theorem rep_nil {xs : List IV} (q : RepVs G ow H xs []) : xs = [] := by cases q; rfl
theorem rep_nil' {vs : List V} (q : RepVs G ow H [] vs) : vs = [] := by cases q; rfl
theorem lineOk_le {n : Nat} (e : lineOk n = true) : n ≤ sizeLine := Nat.le_of_ble_eq_true e

/-! ### arithmetic -/
/-- what an operator's rule asks -/
def rOp (G : Gd) (f : IV → IV → Option IV) : R2 := fun x y H Q => ∃ ow h a b z, HRel G ow H h ∧ RepB G ow H a x ∧ RepB G ow H b y ∧ f a b = some z ∧ ∀ H' v, Grow H H' → RepV G ow H' z v → Q v H'

theorem mulOk_prop {i j : Int} (e : mulOk i j = true) : CMulW i j := by
  unfold mulOk at e
  exact Nat.le_of_ble_eq_true e
theorem op_add_all (hK : X.K = G.K) : OpR X (binaryOp .Add) (rOp G iAdd) := by
  intro pins s σ H x y v u Q I rx ry h
  obtain ⟨ow, st, a, b, z, hr, ra, rb, e, q⟩ := h
  unfold iAdd at e
  split at e
  · cases e
    obtain rfl := ra.int
    obtain rfl := rb.int
    exact op_add pins s σ H _ _ v u Q I rx ry ⟨_, _, rfl, rfl, q _ _ .refl (.int _)⟩
  · split at e
    · rename_i x1 y1 hl
      cases e
      obtain rfl := ra.str
      obtain rfl := rb.str
      exact op_add_str pins s σ H _ _ v u Q I rx ry ⟨_, _, rfl, rfl, lineOk_le hl, q _ _ .refl (.str _)⟩
    · cases e
  · split at e
    · rename_i xs ys hl
      cases e
      obtain ⟨p, vs, rfl, h1, r1⟩ := ra.sqT
      obtain ⟨p2, ws, rfl, h2, r2⟩ := rb.sqT
      have hz := lineOk_le hl
      rw [r1.length, r2.length] at hz
      refine op_catA pins s σ H _ _ v u Q I rx ry ⟨p, p2, vs, ws, rfl, rfl, by rw [hK]; exact h1.sq, by rw [hK]; exact h2.sq, hz, fun e => ?_, fun _ e => ?_, fun _ _ c hc => ?_⟩
      · subst e
        rw [rep_nil r1] at q
        exact q _ _ .refl (.tup h2 r2)
      · subst e
        rw [rep_nil r2, List.append_nil] at q
        exact q _ _ .refl (.tup h1 r1)
      · exact q _ _ (.new hc _) (new_tup hr hc (r1.append r2))
    · cases e
  · split at e
    · rename_i xs ys hl
      cases e
      obtain ⟨p, vs, rfl, h1, r1⟩ := ra.sqL
      obtain ⟨p2, ws, rfl, h2, r2⟩ := rb.sqL
      have hz := lineOk_le hl
      rw [r1.length, r2.length] at hz
      exact op_cat pins s σ H _ _ v u Q I rx ry ⟨p, p2, vs, ws, rfl, rfl, h1, h2, hz, fun c hc => q _ _ (.new hc _) (new_lst hr hc (r1.append r2))⟩
    · cases e
  · cases e

theorem OpR.weak {f : Value → Value → Sem Value} {r r' : R2} (h : OpR X f r) (k : ∀ x y H Q, r' x y H Q → r x y H Q) : OpR X f r' := fun pins s σ H x y v u Q I rx ry q =>
  h pins s σ H x y v u Q I rx ry (k x y H Q q)
theorem op_sub_all : OpR X (binaryOp .Sub) (rOp G iSub) := OpR.weak op_sub fun x y H Q ⟨ow, st, a, b, z, hr, ra, rb, e, q⟩ => by
  unfold iSub at e
  split at e
  · cases e
    obtain rfl := ra.int
    obtain rfl := rb.int
    exact ⟨_, _, rfl, rfl, q _ _ .refl (.int _)⟩
  · cases e
theorem op_fdivG : OpR X (binaryOp .FloorDiv) (rI (fun _ j => j ≠ 0 ∧ j.natAbs.log2 < 9000) fun i j => .int (i.fdiv j)) :=
  opI fun i j _ _ _ _ _ hc q => floordiv_int hc.1 q (.inl (PyProof.noPylong_of_log2 hc.2))
theorem op_fdiv_all : OpR X (binaryOp .FloorDiv) (rOp G iFdiv) := OpR.weak op_fdivG fun x y H Q ⟨ow, st, a, b, z, hr, ra, rb, e, q⟩ => by
  unfold iFdiv at e
  split at e
  · split at e
    · rename_i i j hd
      cases e
      obtain rfl := ra.int
      obtain rfl := rb.int
      unfold divOk at hd
      rw [Bool.and_eq_true] at hd
      exact ⟨_, _, rfl, rfl, ⟨by simpa using hd.1, Nat.le_of_ble_eq_true hd.2⟩, q _ _ .refl (.int _)⟩
    · cases e
  · cases e
theorem op_mod_all : OpR X (binaryOp .Mod) (rOp G iMod) := OpR.weak op_modN fun x y H Q ⟨ow, st, a, b, z, hr, ra, rb, e, q⟩ => by
  unfold iMod at e
  split at e
  · split at e
    · cases e
    · rename_i i j hd
      cases e
      obtain rfl := ra.int
      obtain rfl := rb.int
      exact ⟨_, _, rfl, rfl, by simpa using hd, q _ _ .refl (.int _)⟩
  · cases e
theorem op_powG : OpR X (binaryOp .Pow) (rI (fun i j => 0 ≤ j ∧ (Builtin.Int.intBits i : Int) * j ≤ 2 ^ 27) fun i j => .int (i ^ j.toNat)) :=
  opI fun i j _ _ _ _ _ hc q => pow_int hc.1 hc.2 q
theorem bits_le (x : Int) : Builtin.Int.intBits x ≤ x.natAbs.log2 + 1 := by
  unfold Builtin.Int.intBits
  split <;> omega
theorem op_pow_all : OpR X (binaryOp .Pow) (rOp G iPow) := OpR.weak op_powG fun x y H Q ⟨ow, st, a, b, z, hr, ra, rb, e, q⟩ => by
  unfold iPow at e
  split at e
  · split at e
    · rename_i i j hd
      cases e
      obtain rfl := ra.int
      obtain rfl := rb.int
      unfold powOk at hd
      simp only [Bool.and_eq_true, decide_eq_true_eq] at hd
      obtain ⟨⟨h0, h1⟩, h2⟩ := hd
      have h3 := Nat.le_of_ble_eq_true h2
      refine ⟨_, _, rfl, rfl, ⟨h0, ?_⟩, q _ _ .refl (.int _)⟩
      have hb := bits_le i
      obtain ⟨n, rfl⟩ := Int.eq_ofNat_of_zero_le h0
      have h4 : Builtin.Int.intBits i * n ≤ (i.natAbs.log2 + 1) * n := Nat.mul_le_mul_right n hb
      have h5 : (i.natAbs.log2 + 1) * n = i.natAbs.log2 * n + n := Nat.succ_mul _ _
      have h6 : ((n : Int)).toNat = n := rfl
      rw [h6] at h3
      have h7 : (Builtin.Int.intBits i * n : Nat) ≤ 2 ^ 27 := by omega
      exact_mod_cast h7
    · cases e
  · cases e
theorem RepVs.rep {xs : List IV} {vs : List V} (r : RepVs G ow H xs vs) : ∀ n : Nat, RepVs G ow H (List.replicate n xs).flatten (List.replicate n vs).flatten
  | 0 => .nil
  | n + 1 => by
    rw [List.replicate_succ, List.replicate_succ, List.flatten_cons, List.flatten_cons]
    exact r.append (RepVs.rep r n)
theorem rep_size (x : Array Nat) : ∀ (n : Nat) (acc : Array Nat), ((List.replicate n x).foldl (· ++ ·) acc).size = acc.size + n * x.size
  | 0, acc => by simp
  | n + 1, acc => by
    rw [List.replicate_succ, List.foldl_cons, rep_size x n]
    rw [Array.size_append, Nat.succ_mul]
    omega
theorem op_mulStr : OpR X (binaryOp .Mult) (fun x y H Q => ∃ (i : Str) (k : Int), x = .str i ∧ y = .int k ∧ repOk i.length k = true ∧ Q (.str (strMul i k)) H) := by
  intro pins s σ H x y v u Q I rx ry h
  obtain ⟨i, k, rfl, rfl, hk, q⟩ := h
  obtain ⟨t, rfl⟩ := rx
  obtain ⟨t', rfl⟩ := ry
  unfold repOk at hk
  simp only [Bool.and_eq_true, decide_eq_true_eq] at hk
  obtain ⟨⟨h1, h2⟩, h3⟩ := hk
  have h3 := lineOk_le h3
  have hs : sizeLine = 16777216 := sizeLine_eq
  refine PySem.P.mul_str ?_ (fun h4 h5 => ?_) (fun h4 h5 => ?_) ?_
  · simp only [Bool.or_eq_false_iff, decide_eq_false_iff_not]
    omega
  · have h6 : k * (i.length : Int) < 2 ^ 63 := by
      obtain ⟨n, rfl⟩ := Int.eq_ofNat_of_zero_le (show 0 ≤ k by omega)
      have : ((n : Int)).toNat = n := rfl
      rw [this] at h3
      have h7 : (n * i.length : Nat) < 2 ^ 63 := by rw [Nat.mul_comm]; omega
      exact_mod_cast h7
    intro h7
    have h8 : (i.length : Int) ≤ (2 ^ 63 - 1) / k := Int.le_ediv_of_mul_le (by omega) (by rw [Int.mul_comm]; omega)
    omega
  · unfold Builtin.Str.tooLong
    exact decide_eq_false (by omega)
  · unfold strMul at q
    by_cases h4 : k < 1
    · rw [if_pos h4] at q ⊢
      exact ⟨Nat.zero_le _, ⟨.str _, H, I.tok _, ⟨_, rfl⟩, q⟩⟩
    · rw [if_neg h4] at q ⊢
      by_cases h5 : (k == 1 || i.length == 0) = true
      · rw [if_pos h5] at q ⊢
        exact ⟨.str _, H, I, ⟨_, rfl⟩, q⟩
      · rw [if_neg h5] at q ⊢
        refine ⟨?_, ⟨.str _, H, I.tok _, ⟨_, rfl⟩, q⟩⟩
        show ((List.replicate k.toNat i.cps).foldl (· ++ ·) #[]).size ≤ sizeLine
        rw [rep_size]
        rw [Nat.mul_comm] at h3
        have h3' : k.toNat * i.cps.size ≤ sizeLine := h3
        simpa using h3'
theorem op_mul_all (hK : X.K = G.K) : OpR X (binaryOp .Mult) (rOp G iMul) := by
  intro pins s σ H x y v u Q I rx ry hh
  obtain ⟨ow, st, a, b, z, hr, ra, rb, e, q⟩ := hh
  unfold iMul at e
  split at e
  · split at e
    · rename_i i j hd
      cases e
      obtain rfl := ra.int
      obtain rfl := rb.int
      exact op_mulW pins s σ H _ _ v u Q I rx ry ⟨_, _, rfl, rfl, mulOk_prop hd, q _ _ .refl (.int _)⟩
    · cases e
  · split at e
    · rename_i xs k hk
      cases e
      obtain ⟨p, vs, rfl, h1, r1⟩ := ra.sqL
      obtain rfl := rb.int
      unfold repOk at hk
      simp only [Bool.and_eq_true, decide_eq_true_eq] at hk
      obtain ⟨⟨k1, k2⟩, k3⟩ := hk
      have k3 := lineOk_le k3
      rw [r1.length] at k3
      exact op_rep pins s σ H _ _ v u Q I rx ry ⟨p, k, vs, rfl, rfl, h1, by omega, by omega, k3, fun c hc => q _ _ (.new hc _) (new_lst hr hc (r1.rep _))⟩
    · cases e
  · split at e
    · rename_i xs k hk
      cases e
      obtain ⟨p, vs, rfl, h1, r1⟩ := ra.sqT
      obtain rfl := rb.int
      simp only [Bool.and_eq_true, decide_eq_true_eq] at hk
      obtain ⟨⟨⟨k0, k1⟩, k2⟩, k3⟩ := hk
      have k3 := Nat.le_of_ble_eq_true k3
      rw [r1.length] at k3
      refine op_repT pins s σ H _ _ v u Q I rx ry ⟨p, k, vs, rfl, rfl, by rw [hK]; exact h1.sq, fun e => ?_, k1, k2, k3, fun c hc => q _ _ (.new hc _) (new_tup hr hc (r1.rep _))⟩
      subst e
      rw [rep_nil r1] at k0
      cases k0
    · cases e
  · split at e
    · rename_i x k hk
      cases e
      obtain rfl := ra.str
      obtain rfl := rb.int
      exact op_mulStr pins s σ H _ _ v u Q I rx ry ⟨_, _, rfl, rfl, hk, q _ _ .refl (.str _)⟩
    · cases e
  · cases e
end
end Mi

/-! Mi: comparisons, truth, items, slices -/
namespace Mi
open PySem L2 PyProof.Rows

section
variable {X : Cx} {G : Gd} {ow : Ow} {H : Hp} {h : Sto}
theorem toDs_some {xs : List IV} {x : IV} {ds : List PyData} (e : toDs (x :: xs) = some ds) : ∃ d es, toD x = some d ∧ toDs xs = some es ∧ ds = d :: es := by
  unfold toDs at e
  split at e
  · rename_i d es e1 e2
    cases e
    exact ⟨d, es, e1, e2, rfl⟩
  · cases e
mutual
theorem RepV.dp : ∀ {x : IV} {v : V} {d : PyData}, RepV G ow H x v → toD x = some d → Dp G.K H v d
  | _, _, _, .non, e => by unfold toD at e; cases e; exact .non
  | _, _, _, .bl b, e => by unfold toD at e; cases e; exact .bl b
  | _, _, _, .int b, e => by unfold toD at e; cases e; exact .int b
  | _, _, _, .str b, e => by unfold toD at e; cases e; exact .str b
  | _, _, _, .ty n, e => by unfold toD at e; cases e
  | _, _, _, .fn n, e => by unfold toD at e; cases e
  | _, _, _, .obj n, e => by unfold toD at e; cases e
  | _, _, _, .tup (xs := xs) h r, e => by
    unfold toD at e
    cases e1 : toDs xs with
    | none => rw [e1] at e; cases e
    | some ds => rw [e1] at e; cases e; exact .tup h.sq (RepVs.dp r e1)
  | _, _, _, .lst (xs := xs) h r, e => by
    unfold toD at e
    cases e1 : toDs xs with
    | none => rw [e1] at e; cases e
    | some ds => rw [e1] at e; cases e; exact .lst h.sq (RepVs.dp r e1)
  | _, _, _, .scr (xs := xs) h r, e => by
    unfold toD at e
    cases e1 : toDs xs with
    | none => rw [e1] at e; cases e
    | some ds => rw [e1] at e; cases e; exact .lst h.sq (RepVs.dp r e1)
  | _, _, _, .dct h n d r, e => by unfold toD at e; cases e
theorem RepVs.dp : ∀ {xs : List IV} {vs : List V} {ds : List PyData}, RepVs G ow H xs vs → toDs xs = some ds → DpAll G.K H vs ds
  | _, _, _, .nil, e => by unfold toDs at e; cases e; exact .nil
  | _, _, _, .cons h t, e => by
    obtain ⟨d, es, e1, e2, rfl⟩ := toDs_some e
    exact .cons (RepV.dp h e1) (RepVs.dp t e2)
end
theorem RepB.dp {x : IV} {v : V} {d : PyData} (r : RepB G ow H x v) (e : toD x = some d) : Dp G.K H v d := by
  cases r with
  | of r => exact r.dp e
  | lst h r =>
    rename_i a xs vs
    unfold toD at e
    cases e1 : toDs xs with
    | none => rw [e1] at e; cases e
    | some ds => rw [e1] at e; cases e; exact .lst (.inl (.inl h)) (r.dp e1)
  | dct h d r => unfold toD at e; cases e
theorem shp_some {x : IV} {d : PyData} (e : shp x = some d) : toD x = some d ∧ SeqAt.shaped d = true := by
  unfold shp at e
  split at e
  · rename_i d' e1
    split at e
    · rename_i e2; cases e; exact ⟨e1, e2⟩
    · cases e
  · cases e

def rCmp (G : Gd) (f : IV → IV → Option Bool) : R2 := fun x y H Q => ∃ ow a b k, RepB G ow H a x ∧ RepB G ow H b y ∧ f a b = some k ∧ Q (.bl k) H

theorem eqd_all {K : PySem.W.Frag} (hK : K = G.K) {a b : IV} {x y : V} {k : Bool} (ra : RepB G ow H a x) (rb : RepB G ow H b y) (e : iEqD a b = some k) : ∃ d e, Dp K H x d ∧ Dp K H y e ∧ SeqAt.shaped d = true ∧ SeqAt.shaped e = true ∧ k = PyData.eqv d e := by
  subst hK
  unfold iEqD at e
  split at e
  · rename_i d e' e1 e2
    cases e
    obtain ⟨t1, s1⟩ := shp_some e1
    obtain ⟨t2, s2⟩ := shp_some e2
    exact ⟨d, e', ra.dp t1, rb.dp t2, s1, s2, rfl⟩
  · cases e
theorem eq_cases {K : PySem.W.Frag} (hK : K = G.K) {a b : IV} {x y : V} {k : Bool} (ra : RepB G ow H a x) (rb : RepB G ow H b y) (e : iEq a b = some k) :
    (∃ d e, Dp K H x d ∧ Dp K H y e ∧ SeqAt.shaped d = true ∧ SeqAt.shaped e = true ∧ k = PyData.eqv d e) ∨ (∃ i j, x = .str i ∧ y = .str j ∧ k = (i == j)) ∨ ∃ i j, x = .int i ∧ y = .int j ∧ k = (i == j) := by
  unfold iEq at e
  split at e
  · cases e
    exact .inr (.inl ⟨_, _, ra.str, rb.str, rfl⟩)
  · cases e
    exact .inr (.inr ⟨_, _, ra.int, rb.int, rfl⟩)
  · exact .inl (eqd_all hK ra rb e)
theorem op_eq_all (hK : X.K = G.K) (hu : X.A.units + 64 < cLine) : OpR X (compareOp .Eq) (rCmp G iEq) := OpR.weak ((op_eqD hu).or op_eq) fun x y H Q ⟨ow, a, b, k, ra, rb, e, q⟩ => by
  rcases eq_cases hK ra rb e with ⟨d, e', h1, h2, h3, h4, rfl⟩ | ⟨i, j, rfl, rfl, rfl⟩ | ⟨i, j, rfl, rfl, rfl⟩
  · exact .inl ⟨d, e', h1, h2, h3, h4, q⟩
  · exact .inr ⟨rfl, by rw [dec_str]; exact q⟩
  · exact .inr ⟨rfl, by rw [dec_int]; exact q⟩
theorem oNot_some {o : Option Bool} {k : Bool} (e : oNot o = some k) : ∃ j, o = some j ∧ k = !j := by
  cases o with
  | none => cases e
  | some j => cases e; exact ⟨j, rfl, rfl⟩
theorem op_ne_all (hK : X.K = G.K) (hu : X.A.units + 64 < cLine) : OpR X (compareOp .NotEq) (rCmp G fun a b => oNot (iEq a b)) := OpR.weak ((op_neD hu).or op_ne) fun x y H Q ⟨ow, a, b, k, ra, rb, e0, q⟩ => by
  obtain ⟨j, e, rfl⟩ := oNot_some e0
  rcases eq_cases hK ra rb e with ⟨d, e', h1, h2, h3, h4, rfl⟩ | ⟨i, j, rfl, rfl, rfl⟩ | ⟨i, j, rfl, rfl, rfl⟩
  · exact .inl ⟨d, e', h1, h2, h3, h4, q⟩
  · exact .inr ⟨rfl, by rw [dec_str]; exact q⟩
  · exact .inr ⟨rfl, by rw [dec_int]; exact q⟩
theorem RepB.ne_non {a : IV} {x : V} (r : RepB G ow H a x) (n : a ≠ .non) : x ≠ .non := by
  intro e
  subst e
  cases r with
  | of r => cases r; exact n rfl
theorem is_cases {a b : IV} {k : Bool} {x y : V} (ra : RepB G ow H a x) (rb : RepB G ow H b y) (e : iIs a b = some k) : (y = .non ∧ k = decide (x = .non)) ∨ ∃ i j, x = .bl i ∧ y = .bl j ∧ k = decide (i = j) := by
  unfold iIs at e
  split at e
  all_goals first
    | (cases e; obtain rfl := ra.non; obtain rfl := rb.non; exact .inl ⟨rfl, rfl⟩)
    | (cases e; obtain rfl := ra.bl; obtain rfl := rb.bl; exact .inr ⟨_, _, rfl, rfl, by rw [Bool.beq_eq_decide_eq]⟩)
    | (cases e; obtain rfl := rb.non; exact .inl ⟨rfl, (decide_eq_false (ra.ne_non (by intro z; cases z))).symm⟩)
    | cases e
theorem op_is_all : OpR X (compareOp .Is) (rCmp G iIs) := OpR.weak (op_isN.or op_isBl) fun x y H Q ⟨ow, a, b, k, ra, rb, e, q⟩ => by
  rcases is_cases ra rb e with ⟨rfl, rfl⟩ | ⟨i, j, rfl, rfl, rfl⟩
  · exact .inl ⟨rfl, q⟩
  · exact .inr ⟨_, _, rfl, rfl, q⟩
theorem op_isnot_all : OpR X (compareOp .IsNot) (rCmp G fun a b => oNot (iIs a b)) := OpR.weak (op_notN.or op_notBl) fun x y H Q ⟨ow, a, b, k, ra, rb, e0, q⟩ => by
  obtain ⟨j, e, rfl⟩ := oNot_some e0
  rcases is_cases ra rb e with ⟨rfl, rfl⟩ | ⟨i, j, rfl, rfl, rfl⟩
  · exact .inl ⟨rfl, q⟩
  · exact .inr ⟨_, _, rfl, rfl, q⟩

def rInT (K : PySem.W.Frag) : R2 := fun x y H Q => ∃ d ds, Dp K H x d ∧ Dp K H y (.tuple ds) ∧ SeqAt.shaped d = true ∧ SeqAt.shaped (.tuple ds) = true ∧ Q (.bl (ds.any fun z => PyData.eqv z d)) H
def rNotInT (K : PySem.W.Frag) : R2 := fun x y H Q => ∃ d ds, Dp K H x d ∧ Dp K H y (.tuple ds) ∧ SeqAt.shaped d = true ∧ SeqAt.shaped (.tuple ds) = true ∧ Q (.bl (!ds.any fun z => PyData.eqv z d)) H
theorem op_inT (hu : X.A.units + 65 < cLine) : OpR X (compareOp .In) (rInT X.K) := by
  intro pins s σ H x y v u Q I rx ry ⟨d, ds, hd, he, sd, se, q⟩
  obtain ⟨as, r1⟩ := Dp.reads I d x v hd rx
  obtain ⟨bs, r2⟩ := Dp.reads I (.tuple ds) y u he ry
  exact SeqAt.in_tuple_reads r2 r1 (SeqAt.canLay_of_shaped se) (SeqAt.canLay_of_shaped sd) (room_in_shaped sd hu) ⟨.bl _, H, I, rfl, q⟩
theorem op_notInT (hu : X.A.units + 65 < cLine) : OpR X (compareOp .NotIn) (rNotInT X.K) := by
  intro pins s σ H x y v u Q I rx ry ⟨d, ds, hd, he, sd, se, q⟩
  obtain ⟨as, r1⟩ := Dp.reads I d x v hd rx
  obtain ⟨bs, r2⟩ := Dp.reads I (.tuple ds) y u he ry
  exact SeqAt.notIn_tuple_reads r2 r1 (SeqAt.canLay_of_shaped se) (SeqAt.canLay_of_shaped sd) (room_in_shaped sd hu) ⟨.bl _, H, I, rfl, q⟩
theorem op_lt_all (hu : X.A.units + 64 < cLine) (hK : X.K = G.K) : OpR X (compareOp .Lt) (rCmp G iLt) := by
  intro pins s σ H x y v u Q I rx ry ⟨ow, a, b, k, ra, rb, e, q⟩
  unfold iLt at e
  split at e
  · cases e
    obtain rfl := ra.int
    obtain rfl := rb.int
    exact op_lt pins s σ H _ _ v u Q I rx ry ⟨_, _, rfl, rfl, q⟩
  · cases e
    obtain rfl := ra.str
    obtain rfl := rb.str
    exact op_lt_str pins s σ H _ _ v u Q I rx ry ⟨_, _, rfl, rfl, q⟩
  · split at e
    · rename_i xs ys d e' e1 e2
      split at e
      · rename_i hc
        cases e
        rw [Bool.and_eq_true] at hc
        have d1 : Dp X.K H x (.tuple d) := by rw [hK]; exact ra.dp (by unfold toD; rw [e1]; rfl)
        have d2 : Dp X.K H y (.tuple e') := by rw [hK]; exact rb.dp (by unfold toD; rw [e2]; rfl)
        obtain ⟨as, r1⟩ := Dp.reads I _ x v d1 rx
        obtain ⟨bs, r2⟩ := Dp.reads I _ y u d2 ry
        have hd := Nat.le_of_ble_eq_true hc.2
        exact PySem.W.rcLt_alike _ _ X.A s v u as bs r1 r2 hc.1 (by intro z; cases z) (by omega) _ _ _ _ ⟨.bl _, H, I, rfl, q⟩
      · cases e
    · cases e
  · cases e
theorem op_gt_all : OpR X (compareOp .Gt) (rCmp G iGt) := OpR.weak (op_gt.or op_gt_str) fun x y H Q ⟨ow, a, b, k, ra, rb, e, q⟩ => by
  unfold iGt at e
  split at e
  · cases e
    obtain rfl := ra.int
    obtain rfl := rb.int
    exact .inl ⟨_, _, rfl, rfl, q⟩
  · cases e
    obtain rfl := ra.str
    obtain rfl := rb.str
    exact .inr ⟨_, _, rfl, rfl, q⟩
  · cases e
theorem op_le_all : OpR X (compareOp .LtE) (rCmp G iLe) := OpR.weak (op_le.or op_le_str) fun x y H Q ⟨ow, a, b, k, ra, rb, e, q⟩ => by
  unfold iLe at e
  split at e
  · cases e
    obtain rfl := ra.int
    obtain rfl := rb.int
    exact .inl ⟨_, _, rfl, rfl, q⟩
  · cases e
    obtain rfl := ra.str
    obtain rfl := rb.str
    exact .inr ⟨_, _, rfl, rfl, q⟩
  · cases e
theorem op_ge_all : OpR X (compareOp .GtE) (rCmp G fun a b => iLe b a) := OpR.weak (op_ge.or op_ge_str) fun x y H Q ⟨ow, a, b, k, ra, rb, e0, q⟩ => by
  have e : iLe b a = some k := e0
  unfold iLe at e
  split at e
  · cases e
    obtain rfl := ra.int
    obtain rfl := rb.int
    exact .inl ⟨_, _, rfl, rfl, q⟩
  · cases e
    obtain rfl := ra.str
    obtain rfl := rb.str
    exact .inr ⟨_, _, rfl, rfl, q⟩
  · cases e

theorem op_in_all (hK : X.K = G.K) (hu : X.A.units + 65 < cLine) : OpR X (compareOp .In) (rCmp G iIn) := OpR.weak ((op_inD hu).or ((op_inT hu).or op_in_str)) fun x y H Q ⟨ow, a, b, k, ra, rb, e, q⟩ => by
  unfold iIn at e
  split at e
  · rename_i ys
    split at e
    · rename_i d ds e1 e2
      split at e
      · rename_i hs
        cases e
        obtain ⟨t1, s1⟩ := shp_some e1
        exact .inl ⟨d, ds, by rw [hK]; exact ra.dp t1, by rw [hK]; exact rb.dp (by unfold toD; rw [e2]; rfl), s1, hs, q⟩
      · cases e
    · cases e
  · rename_i ys
    split at e
    · rename_i d ds e1 e2
      split at e
      · rename_i hs
        cases e
        obtain ⟨t1, s1⟩ := shp_some e1
        exact .inr (.inl ⟨d, ds, by rw [hK]; exact ra.dp t1, by rw [hK]; exact rb.dp (by unfold toD; rw [e2]; rfl), s1, hs, q⟩)
      · cases e
    · cases e
  · split at e
    · cases e
      obtain rfl := ra.str
      obtain rfl := rb.str
      exact .inr (.inr ⟨_, _, rfl, rfl, q⟩)
    · cases e
  · cases e
theorem op_notin_all (hK : X.K = G.K) (hu : X.A.units + 65 < cLine) : OpR X (compareOp .NotIn) (rCmp G fun a b => oNot (iIn a b)) := OpR.weak ((op_notInD hu).or ((op_notInT hu).or op_notIn_str)) fun x y H Q ⟨ow, a, b, k, ra, rb, e0, q⟩ => by
  obtain ⟨j, e, rfl⟩ := oNot_some e0
  unfold iIn at e
  split at e
  · rename_i ys
    split at e
    · rename_i d ds e1 e2
      split at e
      · rename_i hs
        cases e
        obtain ⟨t1, s1⟩ := shp_some e1
        exact .inl ⟨d, ds, by rw [hK]; exact ra.dp t1, by rw [hK]; exact rb.dp (by unfold toD; rw [e2]; rfl), s1, hs, q⟩
      · cases e
    · cases e
  · rename_i ys
    split at e
    · rename_i d ds e1 e2
      split at e
      · rename_i hs
        cases e
        obtain ⟨t1, s1⟩ := shp_some e1
        exact .inr (.inl ⟨d, ds, by rw [hK]; exact ra.dp t1, by rw [hK]; exact rb.dp (by unfold toD; rw [e2]; rfl), s1, hs, q⟩)
      · cases e
    · cases e
  · split at e
    · cases e
      obtain rfl := ra.str
      obtain rfl := rb.str
      exact .inr (.inr ⟨_, _, rfl, rfl, q⟩)
    · cases e
  · cases e
theorem op_cmp_all (op : COp) (hK : X.K = G.K) (hu : X.A.units + 65 < cLine) : ∃ o, OpR X (compareOp o) (rCmp G (iCmp op)) := by
  cases op with
  | eq => exact ⟨.Eq, op_eq_all hK (by omega)⟩
  | ne => exact ⟨.NotEq, op_ne_all hK (by omega)⟩
  | lt => exact ⟨.Lt, op_lt_all (by omega) hK⟩
  | gt => exact ⟨.Gt, op_gt_all⟩
  | le => exact ⟨.LtE, op_le_all⟩
  | ge => exact ⟨.GtE, op_ge_all⟩
  | is => exact ⟨.Is, op_is_all⟩
  | isnot => exact ⟨.IsNot, op_isnot_all⟩
  | isin => exact ⟨.In, op_in_all hK hu⟩
  | notin => exact ⟨.NotIn, op_notin_all hK hu⟩
def cOp : COp → CmpOp
  | .eq => .Eq | .ne => .NotEq | .lt => .Lt | .le => .LtE | .gt => .Gt | .ge => .GtE | .is => .Is | .isnot => .IsNot | .isin => .In | .notin => .NotIn
def bOp : BOp → Operator
  | .add => .Add | .sub => .Sub | .mul => .Mult | .fdiv => .FloorDiv | .mod => .Mod | .pow => .Pow
theorem op_cmp (op : COp) (hK : X.K = G.K) (hu : X.A.units + 65 < cLine) : OpR X (compareOp (cOp op)) (rCmp G (iCmp op)) := by
  cases op with
  | eq => exact op_eq_all hK (by omega)
  | ne => exact op_ne_all hK (by omega)
  | lt => exact op_lt_all (by omega) hK
  | gt => exact op_gt_all
  | le => exact op_le_all
  | ge => exact op_ge_all
  | is => exact op_is_all
  | isnot => exact op_isnot_all
  | isin => exact op_in_all hK hu
  | notin => exact op_notin_all hK hu
theorem op_bin (op : BOp) (hK : X.K = G.K) : OpR X (binaryOp (bOp op)) (rOp G (iBin op)) := by
  cases op with
  | add => exact op_add_all hK
  | sub => exact op_sub_all
  | mul => exact op_mul_all hK
  | fdiv => exact op_fdiv_all
  | mod => exact op_mod_all
  | pow => exact op_pow_all

/-! ### truth -/
theorem RepVs.isEmpty {xs : List IV} {vs : List V} (r : RepVs G ow H xs vs) : vs.isEmpty = xs.isEmpty := by cases r <;> rfl
theorem tru_rep {K : PySem.W.Frag} (hK : K = G.K) {a : IV} {x : V} {k : Bool} (r : RepB G ow H a x) (e : iTruth a = some k) : TruV K x H k := by
  subst hK
  unfold iTruth at e
  split at e
  · cases e; obtain rfl := r.non; exact rfl
  · cases e; obtain rfl := r.bl; exact rfl
  · cases e; obtain rfl := r.int; exact rfl
  · split at e
    · rename_i hl; cases e; obtain rfl := r.str; exact ⟨lineOk_le hl, rfl⟩
    · cases e
  · cases e
    obtain ⟨p, vs, rfl, h1, r1⟩ := r.sqT
    exact .inr (.inl ⟨vs, h1.sq, by rw [r1.isEmpty]⟩)
  · cases e
    obtain ⟨p, vs, rfl, h1, r1⟩ := r.sqL
    exact .inl ⟨vs, SqL.of h1, by rw [r1.isEmpty]⟩
  · cases e
    cases r with
    | of r => cases r with
      | scr h1 r1 => exact .inl ⟨_, h1.sq, by rw [r1.isEmpty]⟩
  · cases e

/-! ### items -/
theorem RepVs.atI {xs : List IV} {vs : List V} {i : Int} {z : IV} (r : RepVs G ow H xs vs) (e : L2.atI xs i = some z) : ∃ v, L2.atI vs i = some v ∧ RepV G ow H z v := by
  unfold L2.atI at e ⊢
  rw [← r.length]
  cases e1 : ixN xs.length i with
  | none => rw [e1] at e; cases e
  | some j =>
    rw [e1] at e
    exact r.get e
def rIdx (G : Gd) : R2 := fun x y H Q => ∃ ow a b z, RepB G ow H a x ∧ RepV G ow H b y ∧ iIdx a b = some z ∧ ∀ v, RepV G ow H z v → Q v H
theorem IxR.weak {r r' : R2} (h : IxR X r) (k : ∀ x y H Q, r' x y H Q → r x y H Q) : IxR X r' := fun value slice pins s σ H x y v u Q I rx ry q hs =>
  h value slice pins s σ H x y v u Q I rx ry (k x y H Q q) hs
theorem ix_all (hK : X.K = G.K) : IxR X (rIdx G) := IxR.weak ix_seq fun x y H Q ⟨ow, a, b, z, ra, rb, e, q⟩ => by
  unfold iIdx at e
  split at e
  · obtain ⟨p, vs, rfl, h1, r1⟩ := ra.sqT
    cases rb
    obtain ⟨v, e1, rv⟩ := r1.atI e
    exact .inr (.inl ⟨p, vs, _, v, rfl, rfl, by rw [hK]; exact h1.sq, e1, q v rv⟩)
  · obtain ⟨p, vs, rfl, h1, r1⟩ := ra.sqL
    cases rb
    obtain ⟨v, e1, rv⟩ := r1.atI e
    exact .inl ⟨p, vs, _, v, rfl, rfl, SqL.of h1, e1, q v rv⟩
  · cases rb
    cases ra with
    | of ra => cases ra with
      | scr h1 r1 =>
        obtain ⟨v, e1, rv⟩ := r1.atI e
        exact .inl ⟨_, _, _, v, rfl, rfl, by rw [hK]; exact h1.sq, e1, q v rv⟩
  · split at e
    · rename_i hl
      split at e
      · rename_i c e1
        cases e
        obtain rfl := ra.str
        cases rb
        exact .inr (.inr ⟨_, _, c, rfl, rfl, lineOk_le hl, e1, q _ (.str _)⟩)
      · cases e
    · cases e
  · cases e

/-! ### slices -/
theorem RepVs.cut {xs : List IV} {vs : List V} (r : RepVs G ow H xs vs) (lo hi : Option Int) : RepVs G ow H (cutI xs lo hi) (cutV vs lo hi) := by
  unfold cutI cutV
  rw [r.length]
  exact (r.drop _).take _
theorem cut_all {α : Type} (xs : List α) (lo hi : Option Int) (e : HT.sIx xs.length 0 lo = 0 ∧ HT.sIx xs.length xs.length hi = xs.length) : cutI xs lo hi = xs := by
  unfold cutI
  rw [e.1, e.2]
  simp
def rSli (G : Gd) : V → Option Int → Option Int → Hp → VK → Prop := fun x lo hi H Q => ∃ ow h a l r z, HRel G ow H h ∧ RepB G ow H a x ∧ ofI l = some lo ∧ ofI r = some hi ∧ iSli a l r = some z ∧ ∀ H' v, Grow H H' → RepV G ow H' z v → Q v H'
theorem SlR.weak {r r' : V → Option Int → Option Int → Hp → VK → Prop} (h : SlR X r) (k : ∀ x lo hi H Q, r' x lo hi H Q → r x lo hi H Q) : SlR X r' := fun pins s σ H x v vl vu lo hi sl Q I rx hs pl pu q =>
  h pins s σ H x v vl vu lo hi sl Q I rx hs pl pu (k _ _ _ _ _ q)
theorem sl_all (hK : X.K = G.K) : SlR X (rSli G) := SlR.weak (sl_list.or (sl_tupA.or sl_str)) fun x lo hi H Q ⟨ow, h, a, l, r, z, hr, ra, e1, e2, e, q⟩ => by
  unfold iSli at e
  rw [e1, e2] at e
  simp only at e
  split at e
  · cases e
    obtain ⟨p, vs, rfl, h1, r1⟩ := ra.sqT
    refine .inr (.inl ⟨p, vs, rfl, by rw [hK]; exact h1.sq, fun c => ?_, fun _ c hc => ?_⟩)
    · refine q _ _ .refl ?_
      rw [cut_all _ _ _ (by rw [r1.length]; exact c)]
      exact .tup h1 r1
    · exact q _ _ (.new hc _) (new_tup hr hc (r1.cut _ _))
  · cases e
    obtain ⟨p, vs, rfl, h1, r1⟩ := ra.sqL
    exact .inl ⟨p, vs, rfl, SqL.of h1, fun c hc => q _ _ (.new hc _) (new_lst hr hc (r1.cut _ _))⟩
  · cases e
    cases ra with
    | of ra => cases ra with
      | scr h1 r1 => exact .inl ⟨_, _, rfl, by rw [hK]; exact h1.sq, fun c hc => q _ _ (.new hc _) (new_lst hr hc (r1.cut _ _))⟩
  · split at e
    · rename_i hl
      cases e
      obtain rfl := ra.str
      exact .inr (.inr ⟨_, rfl, lineOk_le hl, q _ _ .refl (.str _)⟩)
    · cases e
  · cases e
end
end Mi

/-! Mi: built-in functions -/
namespace Mi
open PySem L2 PyProof.Rows

mutual
theorem toD_noDict : ∀ {x : IV} {d : PyData}, toD x = some d → d.hasDict = false
  | .non, _, e => by unfold toD at e; cases e; rfl
  | .bl _, _, e => by unfold toD at e; cases e; rfl
  | .int _, _, e => by unfold toD at e; cases e; rfl
  | .str _, _, e => by unfold toD at e; cases e; rfl
  | .ty _, _, e => by unfold toD at e; cases e
  | .fn _, _, e => by unfold toD at e; cases e
  | .obj _, _, e => by unfold toD at e; cases e
  | .dct _ _ _, _, e => by unfold toD at e; cases e
  | .tup xs, _, e => by
    unfold toD at e
    cases e1 : toDs xs with
    | none => rw [e1] at e; cases e
    | some ds => rw [e1] at e; cases e; simp only [PyData.hasDict]; exact toDs_noDict e1
  | .lst xs, _, e => by
    unfold toD at e
    cases e1 : toDs xs with
    | none => rw [e1] at e; cases e
    | some ds => rw [e1] at e; cases e; simp only [PyData.hasDict]; exact toDs_noDict e1
  | .scr xs, _, e => by
    unfold toD at e
    cases e1 : toDs xs with
    | none => rw [e1] at e; cases e
    | some ds => rw [e1] at e; cases e; simp only [PyData.hasDict]; exact toDs_noDict e1
theorem toDs_noDict : ∀ {xs : List IV} {ds : List PyData}, toDs xs = some ds → PyData.hasDictAll ds = false
  | [], _, e => by unfold toDs at e; cases e; rfl
  | x :: xs, _, e => by
    obtain ⟨d, es, e1, e2, rfl⟩ := toDs_some e
    simp only [PyData.hasDictAll]
    rw [toD_noDict e1, toDs_noDict e2]
    rfl
end
section
variable {X : Cx} {G : Gd} {ow : Ow} {H : Hp} {h : Sto}
def rBlt (G : Gd) (f : List IV → Option IV) : List V → Hp → VK → Prop := fun vs H Q => ∃ ow h as z, HRel G ow H h ∧ RepBs G ow H as vs ∧ f as = some z ∧ ∀ H' v, Grow H H' → RepV G ow H' z v → Q v H'
theorem CallR.weak {f : Value} {r r' : List V → Hp → VK → Prop} (h : CallR X f r) (k : ∀ xs H Q, r' xs H Q → r xs H Q) : CallR X f r' := fun pins s σ H xs us Q I rx q =>
  h pins s σ H xs us Q I rx (k xs H Q q)
theorem bs1 {a : IV} {vs : List V} (r : RepBs G ow H [a] vs) : ∃ v, vs = [v] ∧ RepB G ow H a v := by
  cases r with
  | cons h t => cases t; exact ⟨_, rfl, h⟩
theorem bs2 {a b : IV} {vs : List V} (r : RepBs G ow H [a, b] vs) : ∃ v w, vs = [v, w] ∧ RepB G ow H a v ∧ RepB G ow H b w := by
  cases r with
  | cons h t => cases t with
    | cons h2 t2 => cases t2; exact ⟨_, _, rfl, h, h2⟩
theorem intsOf_reps {xs : List IV} : ∀ {ns : List Int} {vs : List V}, RepVs G ow H xs vs → intsOf xs = some ns → vs = ns.map V.int := by
  induction xs with
  | nil => intro ns vs r e; unfold intsOf at e; cases e; cases r; rfl
  | cons x xs ih =>
    intro ns vs r e
    unfold intsOf at e
    split at e
    · rename_i e0; cases e0
    · rename_i i ys e1
      injection e1 with e1 e2
      subst e1 e2
      cases r with
      | cons h t =>
        cases h
        cases e3 : intsOf xs with
        | none => rw [e3] at e; cases e
        | some ms => rw [e3] at e; cases e; rw [ih t e3]; rfl
    · cases e
theorem blsOf_reps {xs : List IV} : ∀ {ns : List Bool} {vs : List V}, RepVs G ow H xs vs → blsOf xs = some ns → vs = ns.map V.bl := by
  induction xs with
  | nil => intro ns vs r e; unfold blsOf at e; cases e; cases r; rfl
  | cons x xs ih =>
    intro ns vs r e
    unfold blsOf at e
    split at e
    · rename_i e0; cases e0
    · rename_i i ys e1
      injection e1 with e1 e2
      subst e1 e2
      cases r with
      | cons h t =>
        cases h
        cases e3 : blsOf xs with
        | none => rw [e3] at e; cases e
        | some ms => rw [e3] at e; cases e; rw [ih t e3]; rfl
    · cases e
theorem lenV_rep {K : PySem.W.Frag} (hK : K = G.K) {a z : IV} {x : V} (r : RepB G ow H a x) (e : iLen a = some z) : ∃ n, LenV K x H n ∧ z = .int n := by
  subst hK
  unfold iLen at e
  split at e
  · cases e
    obtain ⟨p, vs, rfl, h1, r1⟩ := r.sqT
    exact ⟨_, .inr ⟨vs, h1.sq, r1.length⟩, rfl⟩
  · cases e
    obtain ⟨p, vs, rfl, h1, r1⟩ := r.sqL
    exact ⟨_, .inl ⟨vs, SqL.of h1, r1.length⟩, rfl⟩
  · cases e
    cases r with
    | of r => cases r with
      | scr h1 r1 => exact ⟨_, .inl ⟨_, h1.sq, r1.length⟩, rfl⟩
  · split at e
    · rename_i hl
      cases e
      obtain rfl := r.str
      exact ⟨_, ⟨lineOk_le hl, rfl⟩, rfl⟩
    · cases e
  · cases e

/-- repr of data -/
theorem cr_repr (hK : X.K = G.K) (hg : X.A.guards = some []) (hu : X.A.units + 64 < cLine) : CallR X (.builtin "repr") (rBlt G (iBlt .repr)) := by
  intro pins s σ H xs us Q I rx ⟨ow, h, as, z, hr, ra, e, q⟩
  obtain ⟨a, rfl, e2⟩ : ∃ a, as = [a] ∧ iRepr a = some z := by
    match as, e with
    | [a], e => exact ⟨a, rfl, e⟩
  clear e
  have e := e2
  obtain ⟨v, rfl, rv⟩ := bs1 ra
  obtain ⟨u, rfl, ru⟩ := vals1 rx
  unfold iRepr at e
  split at e
  · rename_i d ed
    split at e
    · rename_i hc
      cases e
      simp only [Bool.and_eq_true] at hc
      obtain ⟨⟨hs, hd⟩, hl⟩ := hc
      have hd := Nat.le_of_ble_eq_true hd
      have hl := lineOk_le hl
      have dp : Dp X.K H v d := by rw [hK]; exact rv.dp ed
      obtain ⟨bs, r1⟩ := Dp.reads I d v u dp ru
      have go : ∀ (h' : Heap) (t : Tok) (tk : Nat), (∀ b o, s.heap.get? b = some o → h'.get? b = some o) → EP X pins σ Q (.str d.shown t) { s with heap := h', toks := tk } := fun h' t tk hk =>
        ⟨.str d.shown, H, I.kept hk, ⟨_, rfl⟩, q _ _ .refl (.str _)⟩
      cases r1 with
      | none => simp only [PyData.shown] at go; exact PySem.P.repr_of_none (go s.heap _ _ fun _ _ z => z)
      | bool b => simp only [PyData.shown] at go; exact PySem.P.repr_of_bool (go s.heap _ _ fun _ _ z => z)
      | int i t =>
        simp only [PyData.shown] at go
        simp only [PyData.showable, decide_eq_true_eq] at hs
        exact PySem.P.repr_of_int hs (go s.heap _ _ fun _ _ z => z)
      | str x t =>
        simp only [PyData.shown] at go hl
        exact PySem.P.repr_of_str (go s.heap _ _ fun _ _ z => z) hl
      | list h1 h2 h3 h4 => exact repr_of_reads' (.list h1 h2 h3 h4) hs (PyData.noDict_hsm (toD_noDict ed)) hg (by omega) (fun _ _ z => z) go hl
      | tuple h1 h2 h3 h4 => exact repr_of_reads' (.tuple h1 h2 h3 h4) hs (PyData.noDict_hsm (toD_noDict ed)) hg (by omega) (fun _ _ z => z) go hl
      | dict h1 h2 h3 h4 h5 => exact absurd (toD_noDict ed) (by simp [PyData.hasDict])
    · cases e
  · cases e

def bltV : Blt → Value
  | .len => .builtin "len" | .int => .type "int" | .abs => .builtin "abs" | .max2 => .builtin "max" | .min2 => .builtin "min" | .tuple => .type "tuple" | .list => .type "list"
  | .sum => .builtin "sum" | .all => .builtin "all" | .any => .builtin "any" | .repr => .builtin "repr" | .str => .type "str" | .gcd => .builtin "math.gcd"
  | .maxL => .builtin "max" | .minL => .builtin "min" | .sortedI => .builtin "sorted" | .setsort => .builtin "sorted"
theorem cr_str (hK : X.K = G.K) (hg : X.A.guards = some []) (hu : X.A.units + 66 < cLine) : CallR X (.type "str") (rBlt G (iBlt .str)) := by
  intro pins s σ H xs us Q I rx ⟨ow, h, as, z, hr, ra, e, q⟩
  match as, e, ra with
  | [.int i], e, ra =>
    obtain ⟨v, rfl, rv⟩ := bs1 ra
    obtain rfl := rv.int
    have e : (if Nat.blt i.natAbs.log2 1920 then some (IV.str (toString i)) else none) = some z := e
    split at e
    · rename_i hl
      cases e
      exact call_str_int pins s σ H _ us Q I rx ⟨i, rfl, Nat.le_of_ble_eq_true hl, q _ _ .refl (.str _)⟩
    · cases e
  | [.tup ys], e, ra =>
    obtain ⟨v, rfl, rv⟩ := bs1 ra
    obtain ⟨u, rfl, ru⟩ := vals1 rx
    have e : iRepr (.tup ys) = some z := e
    unfold iRepr at e
    split at e
    · rename_i d ed
      split at e
      · rename_i hc
        cases e
        simp only [Bool.and_eq_true] at hc
        obtain ⟨⟨hs, hd⟩, hl⟩ := hc
        have hd := Nat.le_of_ble_eq_true hd
        have hl := lineOk_le hl
        have dp : Dp X.K H v d := by rw [hK]; exact rv.dp ed
        obtain ⟨bs, r1⟩ := Dp.reads I d v u dp ru
        obtain ⟨p, vs, rfl, h1, r2⟩ := rv.sqT
        cases ru
        exact str_of_reads r1 hs (PyData.noDict_hsm (toD_noDict ed)) hg (by omega) (fun _ _ z => z) (fun h' t tk hk => ⟨.str d.shown, H, I.kept hk, ⟨_, rfl⟩, q _ _ .refl (.str _)⟩) hl
      · cases e
    · cases e
/-- a call of a built-in function, by its evaluation -/
theorem cr_blt (b : Blt) (hK : X.K = G.K) (hc : X.calm = true) (hg : X.A.guards = some []) (hu : X.A.units + 66 < cLine) : CallR X (bltV b) (rBlt G (iBlt b)) := by
  cases b with
  | len =>
    exact CallR.weak call_len fun xs H Q ⟨ow, h, as, z, hr, ra, e, q⟩ => by
      match as, e, ra with
      | [a], e, ra =>
        obtain ⟨v, rfl, rv⟩ := bs1 ra
        obtain ⟨n, l, rfl⟩ := lenV_rep hK rv e
        exact ⟨v, n, rfl, l, q _ _ .refl (.int _)⟩
  | int =>
    exact CallR.weak call_int1 fun xs H Q ⟨ow, h, as, z, hr, ra, e, q⟩ => by
      match as, e, ra with
      | [.int i], e, ra =>
        obtain ⟨v, rfl, rv⟩ := bs1 ra
        obtain rfl := rv.int
        cases e
        exact .inl ⟨i, rfl, q _ _ .refl (.int _)⟩
      | [.bl i], e, ra =>
        obtain ⟨v, rfl, rv⟩ := bs1 ra
        obtain rfl := rv.bl
        cases e
        exact .inr ⟨i, rfl, q _ _ .refl (.int _)⟩
  | abs =>
    exact CallR.weak call_abs fun xs H Q ⟨ow, h, as, z, hr, ra, e, q⟩ => by
      match as, e, ra with
      | [.int i], e, ra =>
        obtain ⟨v, rfl, rv⟩ := bs1 ra
        obtain rfl := rv.int
        cases e
        exact ⟨i, rfl, q _ _ .refl (.int _)⟩
  | max2 =>
    exact CallR.weak (call_max2 hc) fun xs H Q ⟨ow, h, as, z, hr, ra, e, q⟩ => by
      match as, e, ra with
      | [.int i, .int j], e, ra =>
        obtain ⟨v, w, rfl, rv, rw'⟩ := bs2 ra
        obtain rfl := rv.int
        obtain rfl := rw'.int
        cases e
        exact ⟨i, j, rfl, q _ _ .refl (.int _)⟩
  | min2 =>
    exact CallR.weak (call_min2 hc) fun xs H Q ⟨ow, h, as, z, hr, ra, e, q⟩ => by
      match as, e, ra with
      | [.int i, .int j], e, ra =>
        obtain ⟨v, w, rfl, rv, rw'⟩ := bs2 ra
        obtain rfl := rv.int
        obtain rfl := rw'.int
        cases e
        exact ⟨i, j, rfl, q _ _ .refl (.int _)⟩
  | tuple =>
    exact CallR.weak call_tuple_of fun xs H Q ⟨ow, h, as, z, hr, ra, e, q⟩ => by
      match as, e, ra with
      | [.tup ys], e, ra =>
        obtain ⟨v, rfl, rv⟩ := bs1 ra
        obtain ⟨p, vs, rfl, h1, r1⟩ := rv.sqT
        cases e
        exact ⟨p, vs, rfl, .inr ⟨by rw [hK]; exact h1.sq, q _ _ .refl (.tup h1 r1)⟩⟩
      | [.lst ys], e, ra =>
        obtain ⟨v, rfl, rv⟩ := bs1 ra
        obtain ⟨p, vs, rfl, h1, r1⟩ := rv.sqL
        cases e
        exact ⟨p, vs, rfl, .inl ⟨SqL.of h1, fun l hl => q _ _ (.new hl _) (new_tup hr hl r1)⟩⟩
  | list =>
    exact CallR.weak call_list_of fun xs H Q ⟨ow, h, as, z, hr, ra, e, q⟩ => by
      match as, e, ra with
      | [.tup ys], e, ra =>
        obtain ⟨v, rfl, rv⟩ := bs1 ra
        obtain ⟨p, vs, rfl, h1, r1⟩ := rv.sqT
        cases e
        exact ⟨p, vs, rfl, .inr (by rw [hK]; exact h1.sq), fun l hl => q _ _ (.new hl _) (new_lst hr hl r1)⟩
      | [.lst ys], e, ra =>
        obtain ⟨v, rfl, rv⟩ := bs1 ra
        obtain ⟨p, vs, rfl, h1, r1⟩ := rv.sqL
        cases e
        exact ⟨p, vs, rfl, .inl (SqL.of h1), fun l hl => q _ _ (.new hl _) (new_lst hr hl r1)⟩
  | sum =>
    exact CallR.weak (cr_sum hc) fun xs H Q ⟨ow, h, as, z, hr, ra, e, q⟩ => by
      match as, e, ra with
      | [.lst ys], e, ra =>
        obtain ⟨v, rfl, rv⟩ := bs1 ra
        obtain ⟨p, vs, rfl, h1, r1⟩ := rv.sqL
        have e : (intsOf ys).map (fun ns => IV.int ns.sum) = some z := e
        cases e1 : intsOf ys with
        | none => rw [e1] at e; cases e
        | some ns =>
          rw [e1] at e
          cases e
          have := intsOf_reps r1 e1
          subst this
          exact ⟨p, ns, rfl, SqL.of h1, q _ _ .refl (.int _)⟩
  | all =>
    exact CallR.weak (cr_all hc) fun xs H Q ⟨ow, h, as, z, hr, ra, e, q⟩ => by
      match as, e, ra with
      | [.lst ys], e, ra =>
        obtain ⟨v, rfl, rv⟩ := bs1 ra
        obtain ⟨p, vs, rfl, h1, r1⟩ := rv.sqL
        have e : (blsOf ys).map (fun bs => IV.bl (bs.all id)) = some z := e
        cases e1 : blsOf ys with
        | none => rw [e1] at e; cases e
        | some ns =>
          rw [e1] at e
          cases e
          have := blsOf_reps r1 e1
          subst this
          exact ⟨p, ns, rfl, SqL.of h1, q _ _ .refl (.bl _)⟩
  | any =>
    exact CallR.weak (cr_any hc) fun xs H Q ⟨ow, h, as, z, hr, ra, e, q⟩ => by
      match as, e, ra with
      | [.lst ys], e, ra =>
        obtain ⟨v, rfl, rv⟩ := bs1 ra
        obtain ⟨p, vs, rfl, h1, r1⟩ := rv.sqL
        have e : (blsOf ys).map (fun bs => IV.bl (bs.any id)) = some z := e
        cases e1 : blsOf ys with
        | none => rw [e1] at e; cases e
        | some ns =>
          rw [e1] at e
          cases e
          have := blsOf_reps r1 e1
          subst this
          exact ⟨p, ns, rfl, SqL.of h1, q _ _ .refl (.bl _)⟩
  | repr => exact cr_repr hK hg (by omega)
  | str => exact cr_str hK hg hu
  | gcd =>
    exact CallR.weak cr_gcd fun xs H Q ⟨ow, h, as, z, hr, ra, e, q⟩ => by
      match as, e, ra with
      | [.int i, .int j], e, ra =>
        obtain ⟨v, w, rfl, rv, rw'⟩ := bs2 ra
        obtain rfl := rv.int
        obtain rfl := rw'.int
        cases e
        exact ⟨i, j, rfl, q _ _ .refl (.int _)⟩
  | maxL => exact fun pins s σ H xs us Q I rx ⟨ow, h, as, z, hr, ra, e, q⟩ => by cases e
  | minL => exact fun pins s σ H xs us Q I rx ⟨ow, h, as, z, hr, ra, e, q⟩ => by cases e
  | sortedI => exact fun pins s σ H xs us Q I rx ⟨ow, h, as, z, hr, ra, e, q⟩ => by cases e
  | setsort => exact fun pins s σ H xs us Q I rx ⟨ow, h, as, z, hr, ra, e, q⟩ => by cases e
end
end Mi

/-! Mi: calls of the text's own defs -/
namespace Mi
open PySem L2 PyProof.Rows

/-- a def's promise, where no repr is under way -/
structure FnG (P : Program) (w : World) (K : PySem.W.Frag) (mg : Str → Option Value) (base : Heap) (k : Nat) (f : Addr) (fd : FuncData) (ps : List Str) (sp : Sp) : Prop where
  len : ∀ vs H Q E, sp vs H Q E → vs.length = ps.length
  run : ∀ (A : Around) (outer : List Env) (s : Shared) (H : Hp) (args : Args) (us : List Value) (vs : List V) (Q : VK) (E : XK), Room k A → A.guards = some [] → Env0 P w K mg base A outer s H → BindsTo s fd args (ps.zip us) → Vals vs us → sp vs H Q E →
    codeAny (model P w) A (.call (.ref f) args) (CR (L2.CX P w) outer P w H s Q E) s
theorem deeper_guards {A : Around} (h : A.guards = some []) (env : Env) : (A.deeper env).guards = some [] := h
theorem fn_ofG {P : Program} {w : World} {K : PySem.W.Frag} {mg : Str → Option Value} {base : Heap} {k : Nat} {f : Addr} {fd : FuncData} {nm qual : Str} {st : Stmt} {N ps : List Str} {sp : Sp}
    (F : Fun K nm qual st f fd) (S : FnScope N ps (defScope st)) (len : ∀ vs H Q E, sp vs H Q E → vs.length = ps.length)
    (hbody : ∀ (cdv : Value) (A : Around) (outer : List Env) (s : Shared) (H : Hp) (vs : List V) (Q : VK) (E : XK), Room k (A.deeper (envOfC qual (defScope st) s.heap.objs.size f cdv)) → A.guards = some [] → sp vs H Q E →
      ∃ t, PSs (cxOf (L2.CX P w) P w K mg base N qual (defScope st) f cdv A outer s H E) (defBody st) t ∧ t { nx := fun _ H' => Q .non H', rt := Q } (start N vs) H) :
    FnG P w K mg base (k + 1) f fd ps sp := by
  obtain ⟨oc, od, kV, doc, pm, an, cdv, ct, osl, rfl, lk, hcd⟩ := F.ex
  refine ⟨len, fun A outer s H args us vs Q E hr hg e0 hb r hsp => ?_⟩
  have keepB : ∀ b o, base.get? b = some o → s.heap.get? b = some o := fun b o e => (e0.bs b o e).1
  have KX : K.In s.heap := e0.mod.kin.keeps keepB
  refine codeAny_call_function hr.depth (KX _ _ lk) rfl S.co S.gen rfl (PySem.W.codeRec_of KX hcd) (hb _ _ _ _ ?_)
  refine wpAny_newFunctionEnv_cells S.kind ?_ fun env he s1 x => ?_
  · rintro ⟨n, v⟩ hy
    rcases S.par n (List.of_mem_zip hy).1 with q | q
    · exact .inl q
    · exact .inr ⟨q, PySem.W.cellsFrom_some _ _ _ (.inl q)⟩
  · subst he
    refine ⟨(e0.mod.nolimit.keeps keepB).keeps x.toInCall.keep, codeAny_func ?_⟩
    obtain ⟨t, ht, hq⟩ := hbody cdv A outer s H vs Q E (hr.deeper _) hg hsp
    have I := inv_start (CX := L2.CX P w) (E := E) (f := f) (cd := cdv) (qual := qual) S hr.hd e0 (len _ _ _ _ hsp) r x
    refine wpAny_mono (ht.run [] s1 (start N vs) H _ I hq) (fun fl s' hs => ?_) fun _ _ z => z
    cases fl with
    | ret u => obtain ⟨v, σ', H', J, rv, q⟩ := hs; exact ⟨v, H', J.os, J.bare, J.base, J.hok, rv, q⟩
    | next => obtain ⟨σ', H', J, q⟩ := hs; exact ⟨V.non, H', J.os, J.bare, J.base, J.hok, rfl, q⟩
    | brk => exact hs.elim fun _ z => z.elim fun _ z => z.2.elim
    | cont => exact hs.elim fun _ z => z.elim fun _ z => z.2.elim

section
variable {X : Cx} {k : Nat} {f : Addr} {fd : FuncData} {ps : List Str} {sp : Sp} {E : L2.St → XK} {x : Str} {p pos : Pos} {e : Expr} {es : List Expr} {t : TA}
theorem run_fnG {pins : List (Addr × Obj)} {σ : L2.St} {H : Hp} {s : Shared} {Q : VK} {us : List Value} {vs : List V} (F : FnG X.prog X.w X.K X.mg X.base k f fd ps sp) (hr : Room k X.A) (hg : X.A.guards = some []) (hb : Binds X.K fd ps []) (hx : PassesAt (L2.CX X.prog X.w) X σ (E σ))
    (I : Inv X pins σ H s) (r : Vals vs us) (h : sp vs H Q (E σ)) : wpAny (model X.prog X.w) X.A (call (.ref f) us) (EP X pins σ Q) X.xe s := by
  have b := hb s us I.kIn (by rw [List.append_nil, ← r.length]; exact F.len _ _ _ _ h)
  rw [List.append_nil] at b
  refine wpAny_call (codeAny_mono (F.run X.A X.stack s H ⟨us, []⟩ us vs Q (E σ) hr hg I.env0 b r h) fun r s' hq => ?_)
  match r, hq with
  | .error e, hq => exact hx pins H s e s' I hq
  | .ok (.ret u), hq => exact I.after hq
theorem pe_callG (F : FnG X.prog X.w X.K X.mg X.base k f fd ps sp) (hr : Room k X.A) (hgd : X.A.guards = some []) (hg : Gl X x) (hm : X.mg x = some (.ref f)) (hk : PySem.W.keepIn X.K (.ref f) = true) (hb : Binds X.K fd ps []) (hx : ∀ σ, PassesAt (L2.CX X.prog X.w) X σ (E σ))
    (ha : PA X (e :: es) t) (hdb : (x == ("__debug__" : Str)) = false) (he : starEach (e :: es) X.env = (false, eval e X.env) :: starEach es X.env) (hpl : (backTo pos (starEach es X.env)).any (·.1) = false) :
    PE X (.Call (.Name x p) (e :: es) [] pos) (tCallS sp E t) := ⟨fun pins s σ H Q I h =>
  wpAny_Call_Name_kw (ld_glob I hg hm (PySem.W.callWith_K (h₀ := X.base) I.ok.mod.kin hk (thn (ha.run pos pins s σ H _ I h) fun us s1 ⟨vs, H1, I1, r, q⟩ => ⟨I1.kIn, run_fnG F hr hgd hb (hx σ) I1 r q⟩) he hpl) hdb)⟩
theorem pe_callG0 (F : FnG X.prog X.w X.K X.mg X.base k f fd ps sp) (hr : Room k X.A) (hgd : X.A.guards = some []) (hg : Gl X x) (hm : X.mg x = some (.ref f)) (hk : PySem.W.keepIn X.K (.ref f) = true) (hb : Binds X.K fd ps []) (hx : ∀ σ, PassesAt (L2.CX X.prog X.w) X σ (E σ))
    (hdb : (x == ("__debug__" : Str)) = false) : PE X (.Call (.Name x p) [] [] pos) (tCallS sp E tNil) := ⟨fun pins s σ H Q I h =>
  wpAny_Call_Name_kw (ld_glob I hg hm (PySem.W.callWith_K0 I.kIn hk (run_fnG (us := []) F hr hgd hb (hx σ) I .nil h)) hdb)⟩
end

/-! ### owners in the caller's and in the callee's eyes -/
structure OwEq (o1 o2 : Ow) : Prop where
  n : ∀ a, o1 a = none ↔ o2 a = none
  h : ∀ a k, o1 a = some (.hp k) ↔ o2 a = some (.hp k)
section
variable {G : Gd} {ow ow' o1 o2 : Ow} {H H' : Hp}
theorem OwEq.symm (e : OwEq o1 o2) : OwEq o2 o1 := ⟨fun a => (e.n a).symm, fun a k => (e.h a k).symm⟩
theorem TupAt.oweq (e : OwEq o1 o2) {a : Addr} {vs : List V} (h : TupAt G o1 H a vs) : TupAt G o2 H a vs := by
  rcases h with ⟨h, n⟩ | h
  · exact .inl ⟨h, (e.n a).mp n⟩
  · exact .inr h
mutual
theorem RepV.oweq (e : OwEq o1 o2) : ∀ {x : IV} {v : V}, RepV G o1 H x v → RepV G o2 H x v
  | _, _, .non => .non
  | _, _, .bl b => .bl b
  | _, _, .int i => .int i
  | _, _, .str x => .str x
  | _, _, .ty n => .ty n
  | _, _, .fn i => .fn i
  | _, _, .obj h => .obj ((e.h _ _).mp h)
  | _, _, .tup h r => .tup (h.oweq e) (RepVs.oweq e r)
  | _, _, .lst h r => .lst ⟨h.1, (e.n _).mp h.2⟩ (RepVs.oweq e r)
  | _, _, .scr h r => .scr (h.elim (fun ⟨h, n⟩ => .inl ⟨h, (e.n _).mp n⟩) .inr) (RepVs.oweq e r)
  | _, _, .dct h n d r => .dct h ((e.n _).mp n) d (RepVs.oweq e r)
theorem RepVs.oweq (e : OwEq o1 o2) : ∀ {xs : List IV} {vs : List V}, RepVs G o1 H xs vs → RepVs G o2 H xs vs
  | _, _, .nil => .nil
  | _, _, .cons h t => .cons (RepV.oweq e h) (RepVs.oweq e t)
end
theorem OAt.oweq (e : OwEq o1 o2) {a : Addr} {o : IO} (h : OAt G o1 H a o) : OAt G o2 H a o := by
  cases h with
  | lst h r => exact .lst h (r.oweq e)
  | dct h d r => exact .dct h d (r.oweq e)
theorem HRel.oweq (e : OwEq o1 o2) {h : Sto} (r : HRel G o1 H h) : HRel G o2 H h := by
  refine ⟨fun a o ha => ?_, fun n o hn => ?_, fun n a b ha hb => r.inj n a b ((e.h a n).mpr ha) ((e.h b n).mpr hb), fun n a ha => r.dom n a ((e.h a n).mpr ha)⟩
  · cases q : o1 a with
    | none => rw [(e.n a).mp q] at ha; cases ha
    | some o' => exact r.wf a o' q
  · obtain ⟨a, h1, h2⟩ := r.ob n o hn
    exact ⟨a, (e.h a n).mp h1, h2.oweq e⟩
/-- the caller's slots are somebody's -/
def toFo (ow : Ow) : Ow := fun a => match ow a with
  | some (.sl _) => some .fo
  | o => o
theorem toFo_eq (ow : Ow) : OwEq ow (toFo ow) := by
  refine ⟨fun a => ?_, fun a k => ?_⟩
  · unfold toFo
    cases ow a with
    | none => simp
    | some o => cases o <;> simp
  · unfold toFo
    cases ow a with
    | none => simp
    | some o => cases o <;> simp
theorem toFo_sl (ow : Ow) (a : Addr) (i : Nat) : toFo ow a ≠ some (.sl i) := by
  unfold toFo
  cases ow a with
  | none => simp
  | some o => cases o <;> simp
/-- back in the caller -/
def fromFo (ow ow' : Ow) : Ow := fun a => match ow a with
  | some (.sl i) => some (.sl i)
  | some .fo => some .fo
  | _ => ow' a
theorem toFo_fo {ow : Ow} {a : Addr} (h : (∃ i, ow a = some (.sl i)) ∨ ow a = some .fo) : toFo ow a = some .fo := by
  unfold toFo
  rcases h with ⟨i, h⟩ | h <;> rw [h]
theorem fromFo_eq (e : Ext (toFo ow) H ow' H') : OwEq ow' (fromFo ow ow') := by
  refine ⟨fun a => ?_, fun a k => ?_⟩
  · unfold fromFo
    split
    · rename_i i h
      rw [(e.fo a (toFo_fo (.inl ⟨i, h⟩))).1]; simp
    · rename_i h
      rw [(e.fo a (toFo_fo (.inr h))).1]
    · exact Iff.rfl
  · unfold fromFo
    split
    · rename_i i h
      rw [(e.fo a (toFo_fo (.inl ⟨i, h⟩))).1]; simp
    · rename_i h
      rw [(e.fo a (toFo_fo (.inr h))).1]
    · exact Iff.rfl
theorem fromFo_ext (e : Ext (toFo ow) H ow' H') : Ext ow H (fromFo ow ow') H' := by
  have te := toFo_eq ow
  refine ⟨fun a o h n => ?_, fun a h => ?_, fun a n h => ?_⟩
  · obtain ⟨h1, h2⟩ := e.keep a o h ((te.n a).mp n)
    exact ⟨h1, ((fromFo_eq e).n a).mp h2⟩
  · refine ⟨?_, (e.fo a (toFo_fo (.inr h))).2⟩
    unfold fromFo
    rw [h]
  · exact ((fromFo_eq e).h a n).mp (e.hp a n ((te.h a n).mp h))
theorem fromFo_sl (e : Ext (toFo ow) H ow' H') {a : Addr} {i : Nat} (h : ow a = some (.sl i)) : fromFo ow ow' a = some (.sl i) ∧ H' a = H a := by
  refine ⟨?_, (e.fo a (toFo_fo (.inl ⟨i, h⟩))).2⟩
  unfold fromFo
  rw [h]
end

/-! ### what a call promises -/
section
variable (G : Gd) (gx : Gx)
def PoC (Q : VK) (E : XK) (ow : Ow) (H : Hp) : Rc → Prop
  | .ok v h => ∀ ow' H' x, Ext ow H ow' H' → HRel G ow' H' h → RepV G ow' H' v x → Q x H'
  | .exc e h => ∀ ow' H' c d, Ext ow H ow' H' → HRel G ow' H' h → ERel G gx ow' H' e c d → E c d H'
  | .bad => False
def spF (n : Nat) (rc : List IV → Sto → Rc) : Sp := fun vs H Q E => vs.length = n ∧ ∃ ow h args, HRel G ow H h ∧ (∀ a i, ow a ≠ some (.sl i)) ∧ RepVs G ow H args vs ∧ PoC G gx Q E ow H (rc args h)
end
theorem ERel.oweq {G : Gd} {gx : Gx} {o1 o2 : Ow} {H : Hp} {e : Ex} {c : Value} {d : Option Addr} (q : OwEq o1 o2) (h : ERel G gx o1 H e c d) : ERel G gx o2 H e c d := by
  obtain ⟨h1, h2⟩ := h
  refine ⟨h1, ?_⟩
  cases ha : e.arg with
  | none => rw [ha] at h2; exact h2
  | some v =>
    rw [ha] at h2
    obtain ⟨a, x, e1, e2, e3, e4⟩ := h2
    exact ⟨a, x, e1, e2, (q.n a).mp e3, e4.oweq q⟩
section
variable {G : Gd} {gx : Gx} {cl : Nat → List IV → Sto → Rc} {W : WX} {ow : Ow} {H : Hp} {σ : L2.St}
/-- a call, seen from the caller -/
theorem spF_of {n : Nat} {rc : List IV → Sto → Rc} {s : S} {args : List IV} {vs : List V} {Q : VK} (SR : SRel G ow H s σ) (hl : vs.length = n) (ra : RepVs G ow H args vs)
    (h : Po G gx W σ (fun ow H (v : IV) x => RepV G ow H v x) Q ow H (match rc args s.h with
      | .ok v h => R.ok v ⟨s.r, h⟩
      | .exc e h => .exc e ⟨s.r, h⟩
      | .bad => .bad)) : spF G gx n rc vs H Q (WE W σ) := by
  have te := toFo_eq ow
  refine ⟨hl, toFo ow, s.h, args, SR.hr.oweq te, toFo_sl ow, ra.oweq te, ?_⟩
  have back : ∀ {ow' : Ow} {H' : Hp} {h' : Sto}, Ext (toFo ow) H ow' H' → HRel G ow' H' h' → SRel G (fromFo ow ow') H' ⟨s.r, h'⟩ σ := fun {ow' H' h'} e hr =>
    ⟨hr.oweq (fromFo_eq e), fun i sv hi => by
      obtain ⟨x, hx, hs⟩ := SR.sl i sv hi
      exact ⟨x, hx, hs.ext (fromFo_ext e) fun a ha => fromFo_sl e ha⟩⟩
  cases hrc : rc args s.h with
  | ok v h' =>
    rw [hrc] at h
    exact fun ow' H' x e hr r => h _ H' x (fromFo_ext e) (back e hr) (r.oweq (fromFo_eq e))
  | exc e h' =>
    rw [hrc] at h
    exact fun ow' H' c d e hr r => h _ H' c d (fromFo_ext e) (back e hr) (r.oweq (fromFo_eq e))
  | bad => rw [hrc] at h; exact h
end

/-! ### the arguments' row -/
def nst : Expr → Bool
  | .Starred _ _ => false
  | _ => true
theorem star_cons {e : Expr} {es : List Expr} {env : Env} (h : nst e = true) : starEach (e :: es) env = (false, eval e env) :: starEach es env := by
  cases e <;> first | rfl | cases h
theorem star_any {env : Env} {pos : Pos} : ∀ {es : List Expr}, es.all nst = true → (backTo pos (starEach es env)).any (·.1) = false
  | [], _ => rfl
  | e :: es, h => by
    rw [List.all_cons, Bool.and_eq_true] at h
    rw [star_cons h.1]
    have ih := star_any (env := env) (pos := pos) h.2
    unfold backTo at ih ⊢
    rw [List.map_cons, List.any_cons, ih]
    rfl
end Mi

/-! Mi: the check of the core against the text; targets, walks -/
namespace Mi
open PySem L2 PyProof.Rows

/-- what is known of the module's names -/
structure GT where
  fn : List (Str × Nat)
  ar : Nat → Nat
  val : List (Str × IV)
  bl : List Str
/-- where the check stands: the slots' names, the scope, the cells that may be stored to -/
structure Ck where
  gt : GT
  N : List Str
  sc : Scope
  cf : Str → Bool
def visB (sc : Scope) (x : Str) : Bool := match sc.names.lookup x with
  | some .local => true
  | some .cell => true
  | some .free => true
  | _ => false
def okN (x : Str) : Bool := !(x == ("__debug__" : Str)) && !(x == ("__classdict__" : Str)) && !(x == ("__name__" : Str))
def glB (sc : Scope) (x : Str) : Bool := sc.names.lookup x == some .globalImplicit && okN x
/-- x is read from slot i -/
def rdB (c : Ck) (i : Nat) (x : Str) : Bool := c.N[i]? == some x && visB c.sc x && okN x
/-- x is stored to slot i -/
def wrB (c : Ck) (i : Nat) (x : Str) : Bool := c.N[i]? == some x && (c.sc.names.lookup x == some .local || (c.sc.names.lookup x == some .cell && c.cf x))
def bltN : Blt → Str
  | .len => "len" | .int => "int" | .abs => "abs" | .max2 => "max" | .min2 => "min" | .tuple => "tuple" | .list => "list"
  | .sum => "sum" | .all => "all" | .any => "any" | .repr => "repr" | .str => "str" | .gcd => "gcd"
  | .maxL => "max" | .minL => "min" | .sortedI => "sorted" | .setsort => "sorted"
/-- a row -/
def isR : TG → Bool
  | .nil => true
  | .cons _ _ => true
  | _ => false
/-- one thing -/
def isS : TG → Bool
  | .nm _ => true
  | .tp _ => true
  | _ => false
def tgN : TG → List Nat
  | .nm i => [i]
  | .tp t => tgN t
  | .nil => []
  | .cons a b => tgN a ++ tgN b
def chkTG (c : Ck) : TG → List Expr → Bool
  | .nm i, [.Name x _] => wrB c i x
  | .tp t, [.Tuple es _ _] => isR t && chkTG c t es
  | .nil, [] => true
  | .cons a b, e :: es => isS a && isR b && nst e && chkTG c a [e] && chkTG c b es
  | _, _ => false
def isTup : Expr → Bool
  | .Tuple _ _ _ => true
  | _ => false
def cstB : IV → Const → Bool
  | .non, .none => true
  | .bl b, .bool d => b == d
  | .int i, .int j => i == j
  | .str x, .str y => x == y
  | _, _ => false
def isSlc : Expr → Bool
  | .Slice _ _ _ _ => true
  | _ => false
def isSet : Expr → Bool
  | .Set _ _ _ => true
  | _ => false
def isSup : Expr → Bool
  | .Call (.Name _ _) [] [] _ => true
  | _ => false
def isComp : Expr → Bool
  | .ListComp _ _ _ _ => true
  | .SetComp _ _ _ _ => true
  | .DictComp _ _ _ _ _ => true
  | _ => false
def blkCk (c : Ck) (scope : Scope) : Ck := ⟨c.gt, c.N, relS scope c.sc, fun x => scope.names.lookup x == some .cell⟩
/-- its test is its value's truth -/
def plainT : Expr → Bool
  | .UnaryOp .Not _ _ => false
  | .BoolOp _ _ _ => false
  | .IfExp _ _ _ _ => false
  | .Compare _ [_] [_] _ => true
  | .Compare _ [_, _] [_, _] _ => true
  | .Compare _ _ _ _ => false
  | _ => true
def isYes : CT → Bool
  | .yes => true
  | _ => false
mutual
def sameV : IV → IV → Bool
  | .non, .non => true
  | .bl a, .bl b => a == b
  | .int a, .int b => a == b
  | .str a, .str b => a == b
  | .tup a, .tup b => sameVs a b
  | _, _ => false
def sameVs : List IV → List IV → Bool
  | [], [] => true
  | x :: xs, y :: ys => sameV x y && sameVs xs ys
  | _, _ => false
end
mutual
def chkE (c : Ck) : CE → Expr → Bool
  | .var i, .Name x _ => rdB c i x
  | .brw i, .Name x _ => rdB c i x
  | .cst v, .Constant k _ _ => cstB v k
  | .glb y v, .Name x _ => y == x && glB c.sc x && (match c.gt.val.lookup x with | some w => sameV v w | none => false)
  | .bin op a b, .BinOp x o y _ => bOp op == o && chkE c a x && chkE c b y
  | .neg a, .UnaryOp .USub x _ => chkE c a x && !isBrw a
  | .notV a, .UnaryOp .Not x _ => chkE c a x
  | .cmp op a b, .Compare x [o] [y] _ => cOp op == o && chkE c a x && chkE c b y && !isSet y
  | .chn o1 o2 a b d, .Compare x [p1, p2] [y, z] _ => cOp o1 == p1 && cOp o2 == p2 && chkE c a x && chkE c b y && chkE c d z && !isBrw a && !isBrw b && !isBrw d && !isSet z
  | .andV a b, .BoolOp .And (x :: y :: r) p => chkE c a x && !isBrw a && !isBrw b && (match r with | [] => chkE c b y | _ :: _ => chkE c b (.BoolOp .And (y :: r) p))
  | .orV a b, .BoolOp .Or (x :: y :: r) p => chkE c a x && !isBrw a && !isBrw b && (match r with | [] => chkE c b y | _ :: _ => chkE c b (.BoolOp .Or (y :: r) p))
  | .ife t a b, .IfExp x y z _ => chkT c t x && chkE c a y && chkE c b z && !isBrw a && !isBrw b
  | .tup es, .Tuple xs _ _ => chkL c es xs && noBrw es
  | .dnil, .Dict [] [] _ => true
  | .fr _ f, e => chkF c f e
  | .idx a b, .Subscript x y _ => chkE c a x && chkE c b y && !isBrw b && !isSlc y
  | .sli a lo hi, .Subscript x (.Slice l h none _) _ => chkE c a x && !isBrw lo && !isBrw hi && (match l with | none => isNon lo | some l => chkE c lo l && !isNon lo) && (match h with | none => isNon hi | some h => chkE c hi h && !isNon hi)
  | .rev a, .Subscript x (.Slice none none (some (.UnaryOp .USub (.Constant (.int j) _ _) _)) _) _ => chkE c a x && j == 1
  | .call y f es, .Call (.Name x _) xs [] _ => y == x && glB c.sc x && c.gt.fn.lookup x == some f && chkL c es xs && noBrw es && xs.length == c.gt.ar f
  | .blt b es, .Call (.Name x _) (y :: ys) [] _ => x == bltN b && glB c.sc x && c.gt.bl.contains x && chkL c es (y :: ys)
  | .isi a [T], .Call (.Name f _) [x, .Name y _] [] _ => f == ("isinstance" : Str) && glB c.sc f && c.gt.bl.contains f && chkE c a x && !isBrw a && nst x && y == Str.ofString T && glB c.sc y && c.gt.bl.contains y && ["tuple", "str", "dict", "int", "bool", "list"].contains T
  | .app o e, .Call (.Attribute x m pa) [y] [] pc => m == ("append" : Str) && !isSup x && pa.endLine == pc.line && chkE c o x && chkE c e y && !isBrw e && nst y
  | .ext o e, .Call (.Attribute x m pa) [y] [] pc => m == ("extend" : Str) && !isSup x && pa.endLine == pc.line && chkE c o x && chkE c e y && nst y
  | .pop o, .Call (.Attribute x m pa) [] [] pc => m == ("pop" : Str) && !isSup x && pa.endLine == pc.line && chkE c o x
  | _, _ => false
def chkF (c : Ck) : CF → Expr → Bool
  | .dsp es, .List xs _ => chkL c es xs && noBrw es
  | .lc own tg it ifs elt, .ListComp x [⟨t, i, fs, 0⟩] scope _ => blkC c.N c.sc scope own && isS tg && (tgN tg).all (fun i => (own.map (·.2)).contains i) && chkTG (blkCk c scope) tg [t] && chkI c it i && !isSet i && (match fs with | [] => isYes ifs | [f] => chkT (blkCk c scope) ifs f | _ => false) && chkE (blkCk c scope) elt x && !isBrw elt
  | .lof a, .Call (.Name x _) [y] [] _ => x == ("list" : Str) && glB c.sc x && c.gt.bl.contains x && chkE c a y && nst y
  | .rep a b, .BinOp x .Mult y _ => chkE c a x && chkE c b y
  | .cat a b, .BinOp x .Add y _ => chkE c a x && chkE c b y
  | .sli a lo hi, .Subscript x (.Slice l h none _) _ => chkE c a x && !isBrw lo && !isBrw hi && (match l with | none => isNon lo | some l => chkE c lo l && !isNon lo) && (match h with | none => isNon hi | some h => chkE c hi h && !isNon hi)
  | _, _ => false
def chkL (c : Ck) : CL → List Expr → Bool
  | .nil, [] => true
  | .cons a l, e :: es => chkE c a e && nst e && chkL c l es
  | _, _ => false
def chkT (c : Ck) : CT → Expr → Bool
  | .not t, .UnaryOp .Not x _ => chkT c t x
  | .and a b, .BoolOp .And (x :: y :: r) p => chkT c a x && chkT c b (match r with | [] => y | _ :: _ => .BoolOp .And (y :: r) p)
  | .or a b, .BoolOp .Or (x :: y :: r) p => chkT c a x && chkT c b (match r with | [] => y | _ :: _ => .BoolOp .Or (y :: r) p)
  | .val a, e => chkE c a e && plainT e
  | _, _ => false
def chkI (c : Ck) : CI → Expr → Bool
  | .sq a, e => chkE c a e && !isBrw a
  | .rng1 a, .Call (.Name x _) [y] [] _ => x == ("range" : Str) && glB c.sc x && c.gt.bl.contains x && chkE c a y && !isBrw a && nst y
  | .rng2 a b, .Call (.Name x _) [y, z] [] _ => x == ("range" : Str) && glB c.sc x && c.gt.bl.contains x && chkE c a y && !isBrw a && nst y && chkE c b z && !isBrw b && nst z
  | _, _ => false
end
end Mi

/-! Mi: steps of states -/
namespace Mi
open PySem L2 PyProof.Rows

section
variable {G : Gd} {ow ow' : Ow} {H H' : Hp}
/-- kept, as far as trees are concerned -/
structure Ext0 (ow : Ow) (H : Hp) (ow' : Ow) (H' : Hp) : Prop where
  keep : ∀ a o, H a = some o → ow a = none → H' a = some o ∧ ow' a = none
  hp : ∀ a n, ow a = some (.hp n) → ow' a = some (.hp n)
theorem Ext.ext0 (e : Ext ow H ow' H') : Ext0 ow H ow' H' := ⟨e.keep, e.hp⟩
theorem Ext0.rd (e : Ext0 ow H ow' H') {a : Addr} {u : HO} (r : Rd H a u) (n : ow a = none) : Rd H' a u ∧ ow' a = none := by
  rcases r with r | ⟨o, r⟩
  · obtain ⟨h1, h2⟩ := e.keep _ _ r n
    exact ⟨.inl h1, h2⟩
  · obtain ⟨h1, h2⟩ := e.keep _ _ r n
    exact ⟨.inr ⟨o, h1⟩, h2⟩
theorem TupAt.ext0 (e : Ext0 ow H ow' H') {a : Addr} {vs : List V} (h : TupAt G ow H a vs) : TupAt G ow' H' a vs := by
  rcases h with ⟨h, n⟩ | h
  · exact .inl (e.rd h n)
  · exact .inr h
mutual
theorem RepV.ext0 (e : Ext0 ow H ow' H') : ∀ {x : IV} {v : V}, RepV G ow H x v → RepV G ow' H' x v
  | _, _, .non => .non
  | _, _, .bl b => .bl b
  | _, _, .int i => .int i
  | _, _, .str x => .str x
  | _, _, .ty n => .ty n
  | _, _, .fn i => .fn i
  | _, _, .obj h => .obj (e.hp _ _ h)
  | _, _, .tup h r => .tup (h.ext0 e) (RepVs.ext0 e r)
  | _, _, .lst h r => .lst (e.keep _ _ h.1 h.2) (RepVs.ext0 e r)
  | _, _, .scr h r => .scr (h.elim (fun ⟨h, n⟩ => .inl (e.rd h n)) .inr) (RepVs.ext0 e r)
  | _, _, .dct h n d r => .dct (e.rd h n).1 (e.rd h n).2 d (RepVs.ext0 e r)
theorem RepVs.ext0 (e : Ext0 ow H ow' H') : ∀ {xs : List IV} {vs : List V}, RepVs G ow H xs vs → RepVs G ow' H' xs vs
  | _, _, .nil => .nil
  | _, _, .cons h t => .cons (RepV.ext0 e h) (RepVs.ext0 e t)
end
theorem OAt.ext0 (e : Ext0 ow H ow' H') {a : Addr} {o : IO} (h : OAt G ow H a o) (k : H' a = H a) : OAt G ow' H' a o := by
  cases h with
  | lst h r => exact .lst (k.trans h) (r.ext0 e)
  | dct h d r => exact .dct (k.trans h) d (r.ext0 e)
theorem SAt.ext0 (e : Ext0 ow H ow' H') {i : Nat} {sv : SV} {x : V} (h : SAt G ow H i sv x) (k : ∀ a, ow a = some (.sl i) → ow' a = some (.sl i) ∧ H' a = H a) : SAt G ow' H' i sv x := by
  cases h with
  | v h => exact .v (h.ext0 e)
  | ol o h r => exact .ol (k _ o).1 ((k _ o).2.trans h) (r.ext0 e)
  | od o h d r => exact .od (k _ o).1 ((k _ o).2.trans h) d (r.ext0 e)

/-- what is owned by nobody but a slot or somebody around may change -/
theorem ext_at {a : Addr} {o : Own} (ha : ow a = some o) (n : o ≠ .fo) (u : HO) : Ext ow H ow (upd H a u) :=
  ⟨fun b w hb nb => ⟨by rw [upd_ne (by rintro rfl; rw [ha] at nb; cases nb)]; exact hb, nb⟩, fun b hb => ⟨hb, upd_ne (by rintro rfl; rw [ha] at hb; cases hb; exact n rfl)⟩, fun _ _ h => h⟩
theorem ext0_at {a : Addr} {o : Own} (ha : ow a = some o) (u : HO) : Ext0 ow H ow (upd H a u) :=
  ⟨fun b w hb nb => ⟨by rw [upd_ne (by rintro rfl; rw [ha] at nb; cases nb)]; exact hb, nb⟩, fun _ _ h => h⟩

/-- ow with an address given to someone -/
def owUp (ow : Ow) (a : Addr) (o : Option Own) : Ow := fun b => if b = a then o else ow b
theorem owUp_same {a : Addr} {o : Option Own} : owUp ow a o a = o := by unfold owUp; rw [if_pos rfl]
theorem owUp_ne {a b : Addr} {o : Option Own} (h : b ≠ a) : owUp ow a o b = ow b := by unfold owUp; rw [if_neg h]

/-- the heap's relation when an address that is not the store's is turned -/
theorem HRel.turn {h : Sto} (r : HRel G ow H h) (e : Ext0 ow H ow' H') {a : Addr} (hn : ∀ n, ow a ≠ some (.hp n)) (hn' : ∀ n, ow' a ≠ some (.hp n))
    (ho : ∀ b, b ≠ a → ow' b = ow b ∧ H' b = H b) (ha : ∃ u, H' a = some u) : HRel G ow' H' h := by
  refine ⟨fun b o hb => ?_, fun n o h1 => ?_, fun n b c hb hc => ?_, fun n b hb => ?_⟩
  · by_cases q : b = a
    · subst q; exact ha
    · rw [(ho b q).2]
      rw [(ho b q).1] at hb
      exact r.wf b o hb
  · obtain ⟨b, h2, h3⟩ := r.ob n o h1
    have q : b ≠ a := by rintro rfl; exact hn n h2
    exact ⟨b, by rw [(ho b q).1]; exact h2, h3.ext0 e (ho b q).2⟩
  · have q : b ≠ a := by rintro rfl; exact hn' n hb
    have q2 : c ≠ a := by rintro rfl; exact hn' n hc
    rw [(ho b q).1] at hb
    rw [(ho c q2).1] at hc
    exact r.inj n b c hb hc
  · have q : b ≠ a := by rintro rfl; exact hn' n hb
    rw [(ho b q).1] at hb
    exact r.dom n b hb

/-- a slot's own object is frozen -/
theorem freeze {s : S} {σ : L2.St} {i : Nat} {a : Addr} {x : IV} (SR : SRel G ow H s σ) (ho : ow a = some (.sl i)) (hx : σ[i]? = some (some (.ref a))) (hr : ∀ ow', Ext0 ow H ow' H → ow' a = none → RepV G ow' H x (.ref a)) :
    Ext ow H (owUp ow a none) H ∧ SRel G (owUp ow a none) H ⟨s.r.set i (some (.v x)), s.h⟩ σ ∧ RepV G (owUp ow a none) H x (.ref a) := by
  have e : Ext ow H (owUp ow a none) H := by
    refine ⟨fun b u hb n => ⟨hb, ?_⟩, fun b hb => ⟨?_, rfl⟩, fun b n hb => ?_⟩
    · rw [owUp_ne (by rintro rfl; rw [ho] at n; cases n)]; exact n
    · rw [owUp_ne (by rintro rfl; rw [ho] at hb; cases hb)]; exact hb
    · rw [owUp_ne (by rintro rfl; rw [ho] at hb; cases hb)]; exact hb
  have rx := hr _ e.ext0 owUp_same
  refine ⟨e, ⟨SR.hr.turn e.ext0 (a := a) (by rw [ho]; intro n z; cases z) (by rw [owUp_same]; intro n z; cases z) (fun b hb => ⟨owUp_ne hb, rfl⟩) (SR.hr.wf a _ ho), fun j sv hj => ?_⟩, rx⟩
  by_cases q : j = i
  · subst q
    rw [List.getElem?_set] at hj
    rw [if_pos rfl] at hj
    split at hj
    · cases hj
      exact ⟨_, hx, .v rx⟩
    · cases hj
  · rw [List.getElem?_set_ne (Ne.symm q)] at hj
    obtain ⟨y, h1, h2⟩ := SR.sl j sv hj
    exact ⟨y, h1, h2.ext e fun b hb => ⟨by rw [owUp_ne (by rintro rfl; rw [ho] at hb; cases hb; exact q rfl)]; exact hb, rfl⟩⟩

/-- a slot's own object is turned -/
theorem own_set {s : S} {σ : L2.St} {i : Nat} {a : Addr} {sv : SV} {u : HO} (SR : SRel G ow H s σ) (ho : ow a = some (.sl i)) (hx : σ[i]? = some (some (.ref a)))
    (hs : ∀ H', Ext ow H ow H' → H' a = some u → SAt G ow H' i sv (.ref a)) : Ext ow H ow (upd H a u) ∧ SRel G ow (upd H a u) ⟨s.r.set i (some sv), s.h⟩ σ := by
  have e : Ext ow H ow (upd H a u) := ext_at ho (by intro z; cases z) u
  refine ⟨e, ⟨SR.hr.turn e.ext0 (a := a) (by rw [ho]; intro n z; cases z) (by rw [ho]; intro n z; cases z) (fun b hb => ⟨rfl, upd_ne hb⟩) ⟨u, upd_same⟩, fun j sw hj => ?_⟩⟩
  by_cases q : j = i
  · subst q
    rw [List.getElem?_set] at hj
    rw [if_pos rfl] at hj
    split at hj
    · cases hj
      exact ⟨_, hx, hs _ e upd_same⟩
    · cases hj
  · rw [List.getElem?_set_ne (Ne.symm q)] at hj
    obtain ⟨y, h1, h2⟩ := SR.sl j sw hj
    exact ⟨y, h1, h2.ext e fun b hb => ⟨hb, upd_ne (by rintro rfl; rw [ho] at hb; cases hb; exact q rfl)⟩⟩

/-- an object of the store is turned -/
theorem obj_set {s : S} {σ : L2.St} {n : Nat} {a : Addr} {o : IO} {u : HO} (SR : SRel G ow H s σ) (ho : ow a = some (.hp n))
    (hs : ∀ H', Ext ow H ow H' → H' a = some u → OAt G ow H' a o) : Ext ow H ow (upd H a u) ∧ SRel G ow (upd H a u) ⟨s.r, s.h.set n o⟩ σ := by
  have e : Ext ow H ow (upd H a u) := ext_at ho (by intro z; cases z) u
  refine ⟨e, ⟨⟨fun b w hb => ?_, fun m w h1 => ?_, SR.hr.inj, fun m b hb => ?_⟩, fun j sw hj => ?_⟩⟩
  · by_cases q : b = a
    · subst q; exact ⟨u, upd_same⟩
    · rw [upd_ne q]; exact SR.hr.wf b w hb
  · by_cases q : m = n
    · subst q
      rw [List.getElem?_set] at h1
      rw [if_pos rfl] at h1
      split at h1
      · cases h1
        exact ⟨a, ho, hs _ e upd_same⟩
      · cases h1
    · rw [List.getElem?_set_ne (Ne.symm q)] at h1
      obtain ⟨b, h2, h3⟩ := SR.hr.ob m w h1
      exact ⟨b, h2, h3.ext e (upd_ne (by rintro rfl; rw [ho] at h2; cases h2; exact q rfl))⟩
  · rw [List.length_set]; exact SR.hr.dom m b hb
  · obtain ⟨y, h1, h2⟩ := SR.sl j sw hj
    exact ⟨y, h1, h2.ext e fun b hb => ⟨hb, upd_ne (by rintro rfl; rw [ho] at hb; cases hb)⟩⟩

/-- a new object comes into the store -/
theorem obj_new {s : S} {σ : L2.St} {p : Addr} {o : IO} {u : HO} (SR : SRel G ow H s σ) (hp : H p = none)
    (hs : ∀ ow' H', Ext ow H ow' H' → H' p = some u → OAt G ow' H' p o) :
    Ext ow H (owUp ow p (some (.hp s.h.length))) (upd H p u) ∧ SRel G (owUp ow p (some (.hp s.h.length))) (upd H p u) ⟨s.r, s.h ++ [o]⟩ σ ∧ RepV G (owUp ow p (some (.hp s.h.length))) (upd H p u) (.obj s.h.length) (.ref p) := by
  have nn := SR.hr.fresh hp
  have ne : ∀ b w, ow b = some w → b ≠ p := fun b w hb => by rintro rfl; rw [nn] at hb; cases hb
  have e : Ext ow H (owUp ow p (some (.hp s.h.length))) (upd H p u) := by
    refine ⟨fun b w hb n => ?_, fun b hb => ?_, fun b n hb => ?_⟩
    · have q : b ≠ p := by rintro rfl; rw [hp] at hb; cases hb
      rw [upd_ne q, owUp_ne q]; exact ⟨hb, n⟩
    · rw [upd_ne (ne b _ hb), owUp_ne (ne b _ hb)]; exact ⟨hb, rfl⟩
    · rw [owUp_ne (ne b _ hb)]; exact hb
  refine ⟨e, ⟨⟨fun b w hb => ?_, fun m w h1 => ?_, fun m b c hb hc => ?_, fun m b hb => ?_⟩, fun j sw hj => ?_⟩, .obj owUp_same⟩
  · by_cases q : b = p
    · subst q; exact ⟨u, upd_same⟩
    · rw [owUp_ne q] at hb
      rw [upd_ne q]
      exact SR.hr.wf b w hb
  · rcases Nat.lt_or_ge m s.h.length with q | q
    · rw [List.getElem?_append_left q] at h1
      obtain ⟨b, h2, h3⟩ := SR.hr.ob m w h1
      exact ⟨b, by rw [owUp_ne (ne b _ h2)]; exact h2, h3.ext e (upd_ne (ne b _ h2))⟩
    · rw [List.getElem?_append_right q] at h1
      have z : m - s.h.length = 0 := by
        cases q2 : m - s.h.length with
        | zero => rfl
        | succ k => rw [q2] at h1; simp at h1
      rw [z] at h1
      have h1' : w = o := by simpa using h1.symm
      subst h1'
      have q3 : m = s.h.length := by omega
      subst q3
      exact ⟨p, owUp_same, hs _ _ e upd_same⟩
  · by_cases q : b = p
    · by_cases q2 : c = p
      · rw [q, q2]
      · exfalso
        subst q
        rw [owUp_same] at hb; cases hb
        rw [owUp_ne q2] at hc
        exact absurd (SR.hr.dom _ c hc) (Nat.lt_irrefl _)
    · by_cases q2 : c = p
      · exfalso
        subst q2
        rw [owUp_same] at hc; cases hc
        rw [owUp_ne q] at hb
        exact absurd (SR.hr.dom _ b hb) (Nat.lt_irrefl _)
      · rw [owUp_ne q] at hb
        rw [owUp_ne q2] at hc
        exact SR.hr.inj m b c hb hc
  · show m < (s.h ++ [o]).length
    rw [List.length_append, List.length_singleton]
    by_cases q : b = p
    · subst q
      rw [owUp_same] at hb; cases hb
      exact Nat.lt_succ_self _
    · rw [owUp_ne q] at hb
      exact Nat.lt_succ_of_lt (SR.hr.dom m b hb)
  · obtain ⟨y, h1, h2⟩ := SR.sl j sw hj
    exact ⟨y, h1, h2.ext e fun b hb => ⟨by rw [owUp_ne (ne b _ hb)]; exact hb, upd_ne (ne b _ hb)⟩⟩
end

/-! ### Po with its ground kept -/
section
variable {G : Gd} {gx : Gx} {W : WX} {σ : L2.St} {ow ow1 : Ow} {H H1 : Hp}
theorem Po.at {α β γ δ : Type} {vr : Ow → Hp → γ → δ → Prop} {Q : δ → Hp → Prop} {r : R α} {f : α → S → R γ} (h : Po G gx W σ vr Q ow H (r.bind f)) (e1 : Ext ow H ow1 H1)
    {vr1 : Ow → Hp → α → β → Prop} {Q1 : β → Hp → Prop}
    (k : ∀ a s ow2 H2 b, Ext ow1 H1 ow2 H2 → SRel G ow2 H2 s σ → vr1 ow2 H2 a b → Po G gx W σ vr Q ow H (f a s) → Q1 b H2) : Po G gx W σ vr1 Q1 ow1 H1 r := by
  cases r with
  | ok a s => exact fun ow2 H2 b e2 S2 r2 => k a s ow2 H2 b e2 S2 r2 h
  | exc x s => exact fun ow2 H2 c d e2 => h ow2 H2 c d (e1.trans e2)
  | bad => exact h
theorem Po.fin' {α β : Type} {vr : Ow → Hp → α → β → Prop} {Q : β → Hp → Prop} {a : α} {s : S} (h : Po G gx W σ vr Q ow H (.ok a s)) (e : Ext ow H ow1 H1) (SR : SRel G ow1 H1 s σ) {b : β} (r : vr ow1 H1 a b) : Q b H1 :=
  h ow1 H1 b e SR r
end
end Mi

/-! Mi: expressions, one by one -/
namespace Mi
open PySem L2 PyProof.Rows

structure GOk (G : Gd) (gx : Gx) (cl : Nat → List IV → Sto → Rc) (gt : GT) (n : Nat) (P : Program) (w : World) (K : PySem.W.Frag) (mg : Str → Option Value) (base : Heap) : Prop where
  fn : ∀ x i, gt.fn.lookup x = some i → ∃ f fd ps, mg x = some (.ref f) ∧ PySem.W.keepIn K (.ref f) = true ∧ Binds K fd ps [] ∧ FnG P w K mg base n f fd ps (spF G gx ps.length (cl i)) ∧ ps.length = gt.ar i
  bl : ∀ x, gt.bl.contains x = true → (x == ("gcd" : Str)) = false → mg x = none
  gc : gt.bl.contains ("gcd" : Str) = true → mg ("gcd" : Str) = some (.builtin "math.gcd")
  vl : ∀ x v, gt.val.lookup x = some v → ∃ u v', mg x = some u ∧ L2.RelV v' u ∧ ∀ ow H, RepV G ow H v v'
structure XOk (G : Gd) (gx : Gx) (cl : Nat → List IV → Sto → Rc) (n : Nat) (c : Ck) (X : Cx) (W : WX) : Prop where
  hK : X.K = G.K
  nd : X.N.Nodup
  cm : X.calm = true
  rm : Room n X.A
  gd : X.A.guards = some []
  ps : ∀ σ, PassesAt (L2.CX X.prog X.w) X σ (WE W σ)
  hN : X.N = c.N
  hS : X.env.scope = c.sc
  cf : ∀ x, c.cf x = true → X.fn x = true
  gl : GOk G gx cl c.gt n X.prog X.w X.K X.mg X.base

section
variable {G : Gd} {gx : Gx} {cl : Nat → List IV → Sto → Rc} {n : Nat} {c : Ck} {X : Cx} {W : WX}
theorem XOk.u65 (ok : XOk G gx cl n c X W) : X.A.units + 65 < cLine := by have := ok.rm.un; omega
theorem XOk.u66 (ok : XOk G gx cl n c X W) : X.A.units + 66 < cLine := by have := ok.rm.un; omega
theorem XOk.vis (ok : XOk G gx cl n c X W) {x : Str} (h : visB c.sc x = true) : Vis X.env.scope x := by
  rw [ok.hS]
  unfold visB at h
  unfold Vis
  split at h
  · exact .inl (by assumption)
  · exact .inr (.inl (by assumption))
  · exact .inr (.inr (by assumption))
  · cases h
theorem okN_p {x : Str} (h : okN x = true) : (x == ("__debug__" : Str)) = false ∧ (x == ("__classdict__" : Str)) = false ∧ x ≠ "__name__" := by
  unfold okN at h
  simp only [Bool.and_eq_true, Bool.not_eq_true'] at h
  refine ⟨h.1.1, h.1.2, fun e => ?_⟩
  have := h.2
  rw [e] at this
  revert this
  decide
theorem XOk.gls (ok : XOk G gx cl n c X W) {x : Str} (h : glB c.sc x = true) : Gl X x ∧ (x == ("__debug__" : Str)) = false ∧ x ≠ "__name__" := by
  unfold glB at h
  rw [Bool.and_eq_true] at h
  obtain ⟨h1, h2⟩ := h
  refine ⟨?_, (okN_p h2).1, (okN_p h2).2.2⟩
  show X.env.scope.names.lookup x = _
  rw [ok.hS]
  exact eq_of_beq h1

/-! names, constants -/
theorem e_var {i : Nat} {x : Str} {pos : Pos} (ok : XOk G gx cl n c X W) (h : rdB c i x = true) : PE X (.Name x pos) (tE G gx cl W (.var i)) := by
  unfold rdB at h
  simp only [Bool.and_eq_true] at h
  obtain ⟨⟨h1, h2⟩, h3⟩ := h
  have hi : X.N[i]? = some x := by rw [ok.hN]; exact eq_of_beq h1
  refine PE.weak (pe_var (pos := pos) hi (ok.vis h2) (okN_p h3).1 (okN_p h3).2.1) fun σ H Q h => ?_
  obtain ⟨ow, s, SR, h⟩ := h
  unfold evE rdV at h
  split at h
  · rename_i x e
    obtain ⟨v, h1, h2⟩ := SR.sl _ _ (getS_some e)
    cases h2 with
    | v r => exact ⟨v, h1, h.fin SR r⟩
  · rename_i xs e
    obtain ⟨v, h1, h2⟩ := SR.sl _ _ (getS_some e)
    cases h2 with
    | @ol a _ vs o hh r =>
      obtain ⟨e1, S1, r1⟩ := freeze (x := .lst xs) SR o h1 fun ow' e0 hn => .lst ⟨hh, hn⟩ (r.ext0 e0)
      exact ⟨_, h1, (h.ext e1).fin S1 r1⟩
  · rename_i t ks xs e
    obtain ⟨v, h1, h2⟩ := SR.sl _ _ (getS_some e)
    cases h2 with
    | @od a _ _ _ vs ob o hh d r =>
      obtain ⟨e1, S1, r1⟩ := freeze (x := .dct t ks xs) SR o h1 fun ow' e0 hn => .dct (.inl hh) hn d (r.ext0 e0)
      exact ⟨_, h1, (h.ext e1).fin S1 r1⟩
  · exact h.elim
theorem e_brw {i : Nat} {x : Str} {pos : Pos} (ok : XOk G gx cl n c X W) (h : rdB c i x = true) : PE X (.Name x pos) (tE G gx cl W (.brw i)) := by
  unfold rdB at h
  simp only [Bool.and_eq_true] at h
  obtain ⟨⟨h1, h2⟩, h3⟩ := h
  have hi : X.N[i]? = some x := by rw [ok.hN]; exact eq_of_beq h1
  refine PE.weak (pe_var (pos := pos) hi (ok.vis h2) (okN_p h3).1 (okN_p h3).2.1) fun σ H Q h => ?_
  obtain ⟨ow, s, SR, h⟩ := h
  unfold evE at h
  split at h
  · rename_i sv e
    obtain ⟨v, h1, h2⟩ := SR.sl _ _ (getS_some e)
    exact ⟨v, h1, h.fin SR h1⟩
  · exact h.elim
theorem e_cst {v : IV} {k : Const} {j : Nat} {pos : Pos} (h : cstB v k = true) : PE X (.Constant k j pos) (tE G gx cl W (.cst v)) := by
  unfold cstB at h
  split at h
  · refine PE.weak pe_non fun σ H Q ⟨ow, s, SR, h⟩ => ?_
    unfold evE at h
    exact h.fin SR .non
  · cases eq_of_beq h
    refine PE.weak pe_bl fun σ H Q ⟨ow, s, SR, h⟩ => ?_
    unfold evE at h
    exact h.fin SR (.bl _)
  · cases eq_of_beq h
    refine PE.weak pe_int fun σ H Q ⟨ow, s, SR, h⟩ => ?_
    unfold evE at h
    exact h.fin SR (.int _)
  · cases eq_of_beq h
    refine PE.weak pe_str fun σ H Q ⟨ow, s, SR, h⟩ => ?_
    unfold evE at h
    exact h.fin SR (.str _)
  · cases h
mutual
theorem sameV_eq : ∀ {a b : IV}, sameV a b = true → a = b
  | .non, .non, _ => rfl
  | .bl a, .bl b, h => by unfold sameV at h; rw [eq_of_beq h]
  | .int a, .int b, h => by unfold sameV at h; rw [eq_of_beq h]
  | .str a, .str b, h => by unfold sameV at h; rw [eq_of_beq h]
  | .tup a, .tup b, h => by unfold sameV at h; rw [sameVs_eq h]
  | .non, .bl _, h | .non, .int _, h | .non, .str _, h | .non, .tup _, h | .non, .lst _, h | .non, .scr _, h | .non, .dct _ _ _, h | .non, .obj _, h | .non, .fn _, h | .non, .ty _, h => by simp [sameV] at h
  | .bl _, .non, h | .bl _, .int _, h | .bl _, .str _, h | .bl _, .tup _, h | .bl _, .lst _, h | .bl _, .scr _, h | .bl _, .dct _ _ _, h | .bl _, .obj _, h | .bl _, .fn _, h | .bl _, .ty _, h => by simp [sameV] at h
  | .int _, .non, h | .int _, .bl _, h | .int _, .str _, h | .int _, .tup _, h | .int _, .lst _, h | .int _, .scr _, h | .int _, .dct _ _ _, h | .int _, .obj _, h | .int _, .fn _, h | .int _, .ty _, h => by simp [sameV] at h
  | .str _, .non, h | .str _, .bl _, h | .str _, .int _, h | .str _, .tup _, h | .str _, .lst _, h | .str _, .scr _, h | .str _, .dct _ _ _, h | .str _, .obj _, h | .str _, .fn _, h | .str _, .ty _, h => by simp [sameV] at h
  | .tup _, .non, h | .tup _, .bl _, h | .tup _, .int _, h | .tup _, .str _, h | .tup _, .lst _, h | .tup _, .scr _, h | .tup _, .dct _ _ _, h | .tup _, .obj _, h | .tup _, .fn _, h | .tup _, .ty _, h => by simp [sameV] at h
  | .lst _, b, h | .scr _, b, h | .dct _ _ _, b, h | .obj _, b, h | .fn _, b, h | .ty _, b, h => by cases b <;> simp [sameV] at h
theorem sameVs_eq : ∀ {a b : List IV}, sameVs a b = true → a = b
  | [], [], _ => rfl
  | x :: xs, y :: ys, h => by
    unfold sameVs at h
    rw [Bool.and_eq_true] at h
    rw [sameV_eq h.1, sameVs_eq h.2]
  | [], _ :: _, h => by simp [sameVs] at h
  | _ :: _, [], h => by simp [sameVs] at h
end
theorem e_glb {x y : Str} {v w : IV} {pos : Pos} (ok : XOk G gx cl n c X W) (hg : glB c.sc x = true) (hl : c.gt.val.lookup x = some w) (hs : sameV v w = true) : PE X (.Name x pos) (tE G gx cl W (.glb y v)) := by
  cases sameV_eq hs
  obtain ⟨u, v', h1, h2, h3⟩ := ok.gl.vl x _ hl
  obtain ⟨g1, g2, g3⟩ := ok.gls hg
  refine PE.weak (pe_glob g1 h1 h2 g2) fun σ H Q ⟨ow, s, SR, h⟩ => ?_
  unfold evE at h
  exact h.fin SR (h3 _ _)

theorem RepVs.reverse {ow : Ow} {H : Hp} : ∀ {xs : List IV} {vs : List V}, RepVs G ow H xs vs → RepVs G ow H xs.reverse vs.reverse
  | _, _, .nil => .nil
  | _, _, .cons r t => by rw [List.reverse_cons, List.reverse_cons]; exact (RepVs.reverse t).append (.cons r .nil)
theorem e_dnil {p : Pos} : PE X (.Dict [] [] p) (tE G gx cl W .dnil) := PE.weak pe_dnewK fun σ H Q ⟨ow, s, SR, h⟩ => by
  unfold evE at h
  intro p hp
  exact h.grow SR (.new hp _) (.dct (.inl upd_same) (SR.hr.fresh hp) (.k [] rfl rfl) .nil)
/-! operators -/
theorem e_bin {op : BOp} {a b : CE} {x y : Expr} {p : Pos} (ok : XOk G gx cl n c X W) (ha : PE X x (tE G gx cl W a)) (hb : PE X y (tE G gx cl W b)) : PE X (.BinOp x (bOp op) y p) (tE G gx cl W (.bin op a b)) :=
  PE.weak (pe_op (op_bin op ok.hK) ha hb) fun σ H Q ⟨ow, s, SR, h⟩ => by
    unfold evE at h
    refine ⟨ow, s, SR, h.step fun x s1 ow1 H1 v e1 S1 r1 h1 => ⟨ow1, s1, S1, h1.step fun y s2 ow2 H2 w e2 S2 r2 h2 => ?_⟩⟩
    split at h2
    · rename_i x' y' ex ey
      cases hz : iBin op x' y' with
      | none => rw [hz] at h2; exact h2.elim
      | some z =>
        rw [hz] at h2
        exact ⟨ow2, s2.h, x', y', z, S2.hr, late_rep S2 (r1.ext e2) ex, late_rep S2 r2 ey, hz, fun H' u g r => h2.grow S2 g r⟩
    · exact h2.elim
theorem e_cmp {op : COp} {a b : CE} {x y : Expr} {p : Pos} (ok : XOk G gx cl n c X W) (ha : PE X x (tE G gx cl W a)) (hb : PE X y (tE G gx cl W b)) (hs : isSet y = false) : PE X (.Compare x [cOp op] [y] p) (tE G gx cl W (.cmp op a b)) :=
  PE.weak (pe_cmpR (op_cmp op ok.hK ok.u65) ha hb (by cases y <;> first | rfl | cases hs)) fun σ H Q ⟨ow, s, SR, h⟩ => by
    unfold evE at h
    refine ⟨ow, s, SR, h.step fun x s1 ow1 H1 v e1 S1 r1 h1 => ⟨ow1, s1, S1, h1.step fun y s2 ow2 H2 w e2 S2 r2 h2 => ?_⟩⟩
    split at h2
    · rename_i x' y' ex ey
      split at h2
      · rename_i k hk
        exact ⟨ow2, x', y', k, late_rep S2 (r1.ext e2) ex, late_rep S2 r2 ey, hk, h2.fin S2 (.bl k)⟩
      · exact h2.elim
    · exact h2.elim
theorem bind_assoc {α β γ : Type} (r : R α) (f : α → S → R β) (g : β → S → R γ) : (r.bind f).bind g = r.bind fun a s => (f a s).bind g := by cases r <;> rfl
theorem t_cmp {op : COp} {a b : CE} {x y : Expr} {p : Pos} (ok : XOk G gx cl n c X W) (ha : PE X x (tE G gx cl W a)) (hb : PE X y (tE G gx cl W b)) (hs : isSet y = false) : PT X (.Compare x [cOp op] [y] p) (tT G gx cl W (.val (.cmp op a b))) :=
  PT.weak (pt_cmpR (op_cmp op ok.hK ok.u65) ha hb (by cases y <;> first | rfl | cases hs)) fun σ H Q ⟨ow, s, SR, h⟩ => by
    unfold evT evE at h
    rw [bind_assoc] at h
    refine ⟨ow, s, SR, h.step fun x s1 ow1 H1 v e1 S1 r1 h1 => ⟨ow1, s1, S1, ?_⟩⟩
    rw [bind_assoc] at h1
    refine h1.step fun y s2 ow2 H2 w e2 S2 r2 h2 => ?_
    split at h2
    · rename_i x' y' ex ey
      split at h2
      · rename_i k hk
        exact ⟨ow2, x', y', k, late_rep S2 (r1.ext e2) ex, late_rep S2 r2 ey, hk, k, rfl, Po.fin (b := k) h2 S2 rfl⟩
      · exact h2.elim
    · exact h2.elim
theorem e_neg {a : CE} {x : Expr} {p : Pos} (ha : PE X x (tE G gx cl W a)) (nb : isBrw a = false) : PE X (.UnaryOp .USub x p) (tE G gx cl W (.neg a)) :=
  PE.weak (pe_un un_neg ha) fun σ H Q ⟨ow, s, SR, h⟩ => by
    unfold evE at h
    refine ⟨ow, s, SR, h.step fun x s1 ow1 H1 v e1 S1 r1 h1 => ?_⟩
    unfold iNeg at h1
    split at h1
    · cases r1.rep nb
      exact ⟨_, rfl, h1.fin S1 (.int _)⟩
    · exact h1.elim
theorem e_not {a : CE} {x : Expr} {p : Pos} (ok : XOk G gx cl n c X W) (ha : PE X x (tE G gx cl W a)) : PE X (.UnaryOp .Not x p) (tE G gx cl W (.notV a)) :=
  PE.weak (pe_notT ha) fun σ H Q ⟨ow, s, SR, h⟩ => by
    unfold evE at h
    refine ⟨ow, s, SR, h.step fun x s1 ow1 H1 v e1 S1 r1 h1 => ?_⟩
    split at h1
    · rename_i x' ex
      split at h1
      · rename_i k hk
        exact ⟨k, tru_rep ok.hK (late_rep S1 r1 ex) hk, h1.fin S1 (.bl _)⟩
      · exact h1.elim
    · exact h1.elim
theorem e_chn {o1 o2 : COp} {a b d : CE} {x y z : Expr} {p : Pos} (ok : XOk G gx cl n c X W) (ha : PE X x (tE G gx cl W a)) (hb : PE X y (tE G gx cl W b)) (hd : PE X z (tE G gx cl W d))
    (na : isBrw a = false) (nb : isBrw b = false) (nd : isBrw d = false) (hs : isSet z = false) : PE X (.Compare x [cOp o1, cOp o2] [y, z] p) (tE G gx cl W (.chn o1 o2 a b d)) :=
  PE.weak (pe_chain (op_cmp o1 ok.hK ok.u65) (op_cmp o2 ok.hK ok.u65) ha hb hd (by cases z <;> first | rfl | cases hs)) fun σ H Q ⟨ow, s, SR, h⟩ => by
    unfold evE at h
    refine ⟨ow, s, SR, h.step fun x s1 ow1 H1 v e1 S1 r1 h1 => ⟨ow1, s1, S1, h1.step fun y s2 ow2 H2 w e2 S2 r2 h2 => ?_⟩⟩
    cases hk : iCmp o1 x y with
    | none => rw [hk] at h2; exact h2.elim
    | some k =>
      rw [hk] at h2
      refine ⟨ow2, x, y, k, .of ((r1.rep na).ext e2), .of (r2.rep nb), hk, k, rfl, ?_⟩
      cases k with
      | false => exact h2.fin S2 (.bl false)
      | true =>
        refine ⟨ow2, s2, S2, h2.step fun z s3 ow3 H3 u e3 S3 r3 h3 => ?_⟩
        cases hj : iCmp o2 y z with
        | none => rw [hj] at h3; exact h3.elim
        | some j =>
          rw [hj] at h3
          exact ⟨ow3, y, z, j, .of ((r2.rep nb).ext e3), .of (r3.rep nd), hj, h3.fin S3 (.bl j)⟩
theorem Po.vr {α β : Type} {vr vr' : Ow → Hp → α → β → Prop} {Q : β → Hp → Prop} {ow : Ow} {H : Hp} {σ : L2.St} {r : R α} (h : Po G gx W σ vr Q ow H r) (k : ∀ ow H a b, vr' ow H a b → vr ow H a b) : Po G gx W σ vr' Q ow H r := by
  cases r with
  | ok a s => exact fun ow' H' b e1 S1 r1 => h ow' H' b e1 S1 (k _ _ _ _ r1)
  | exc e s => exact h
  | bad => exact h
theorem Po.vrQ {α β : Type} {vr : Ow → Hp → α → β → Prop} {Q Q' : β → Hp → Prop} {ow : Ow} {H : Hp} {σ : L2.St} {r : R α} (h : Po G gx W σ vr Q ow H r) (k : ∀ b H, Q b H → Q' b H) : Po G gx W σ vr Q' ow H r := by
  cases r with
  | ok a s => exact fun ow' H' b e1 S1 r1 => k _ _ (h ow' H' b e1 S1 r1)
  | exc e s => exact h
  | bad => exact h
theorem e_and {a b : CE} {x y : Expr} {r : List Expr} {p : Pos} (ok : XOk G gx cl n c X W) (ha : PE X x (tE G gx cl W a)) (hb : PE X (.BoolOp .And (y :: r) p) (tE G gx cl W b)) (na : isBrw a = false) (nb : isBrw b = false) :
    PE X (.BoolOp .And (x :: y :: r) p) (tE G gx cl W (.andV a b)) :=
  PE.weak (pe_andT ha hb) fun σ H Q ⟨ow, s, SR, h⟩ => by
    unfold evE at h
    refine ⟨ow, s, SR, h.step fun x s1 ow1 H1 v e1 S1 r1 h1 => ?_⟩
    cases hk : iTruth (deref s1.h x) with
    | none => rw [hk] at h1; exact h1.elim
    | some k =>
      rw [hk] at h1
      refine ⟨k, tru_rep ok.hK ((r1.rep na).deref S1.hr) hk, ?_⟩
      cases k with
      | false => exact h1.fin S1 (r1.rep na)
      | true => exact ⟨ow1, s1, S1, h1.vr fun _ _ _ _ z => z.rep nb⟩
theorem e_or {a b : CE} {x y : Expr} {r : List Expr} {p : Pos} (ok : XOk G gx cl n c X W) (ha : PE X x (tE G gx cl W a)) (hb : PE X (.BoolOp .Or (y :: r) p) (tE G gx cl W b)) (na : isBrw a = false) (nb : isBrw b = false) :
    PE X (.BoolOp .Or (x :: y :: r) p) (tE G gx cl W (.orV a b)) :=
  PE.weak (pe_orT ha hb) fun σ H Q ⟨ow, s, SR, h⟩ => by
    unfold evE at h
    refine ⟨ow, s, SR, h.step fun x s1 ow1 H1 v e1 S1 r1 h1 => ?_⟩
    cases hk : iTruth (deref s1.h x) with
    | none => rw [hk] at h1; exact h1.elim
    | some k =>
      rw [hk] at h1
      refine ⟨k, tru_rep ok.hK ((r1.rep na).deref S1.hr) hk, ?_⟩
      cases k with
      | true => exact h1.fin S1 (r1.rep na)
      | false => exact ⟨ow1, s1, S1, h1.vr fun _ _ _ _ z => z.rep nb⟩
theorem e_ife {t : CT} {a b : CE} {z x y : Expr} {p : Pos} (ht : PT X z (tT G gx cl W t)) (ha : PE X x (tE G gx cl W a)) (hb : PE X y (tE G gx cl W b)) (na : isBrw a = false) (nb : isBrw b = false) :
    PE X (.IfExp z x y p) (tE G gx cl W (.ife t a b)) :=
  PE.weak (pe_ifExp ht ha hb) fun σ H Q ⟨ow, s, SR, h⟩ => by
    unfold evE at h
    refine ⟨ow, s, SR, h.step fun k s1 ow1 H1 j e1 S1 r1 h1 => ?_⟩
    cases r1
    cases k with
    | true => exact ⟨ow1, s1, S1, h1.vr fun _ _ _ _ z => z.rep na⟩
    | false => exact ⟨ow1, s1, S1, h1.vr fun _ _ _ _ z => z.rep nb⟩
theorem e_tup {es : CL} {xs : List Expr} {k : Nat} {p : Pos} (hl : PA X xs (tL G gx cl W es)) (nb : noBrw es = true) : PE X (.Tuple xs k p) (tE G gx cl W (.tup es)) :=
  PE.weak (pe_tup hl) fun σ H Q ⟨ow, s, SR, h⟩ => by
    unfold evE at h
    refine ⟨ow, s, SR, h.step fun xs s1 ow1 H1 vs e1 S1 r1 h1 => ?_⟩
    have rr := r1.reps nb
    split at h1
    · rename_i hz
      refine ⟨by rw [← rr.length]; exact lineOk_le hz, fun p hp => ?_⟩
      exact h1.grow S1 (.new hp _) (new_tup S1.hr hp rr)
    · exact h1.elim
theorem e_idx {a b : CE} {x y : Expr} {p : Pos} (ok : XOk G gx cl n c X W) (ha : PE X x (tE G gx cl W a)) (hb : PE X y (tE G gx cl W b)) (nb : isBrw b = false) (hs : isSlc y = false) : PE X (.Subscript x y p) (tE G gx cl W (.idx a b)) :=
  PE.weak (pe_ix (ix_all ok.hK) ha hb (by cases y <;> first | exact fun _ _ => rfl | cases hs)) fun σ H Q ⟨ow, s, SR, h⟩ => by
    unfold evE at h
    refine ⟨ow, s, SR, h.step fun x s1 ow1 H1 v e1 S1 r1 h1 => ⟨ow1, s1, S1, h1.step fun y s2 ow2 H2 w e2 S2 r2 h2 => ?_⟩⟩
    split at h2
    · rename_i x' ex
      cases hz : iIdx x' y with
      | none => rw [hz] at h2; exact h2.elim
      | some z =>
        rw [hz] at h2
        exact ⟨ow2, x', y, z, late_rep S2 (r1.ext e2) ex, r2.rep nb, hz, fun v r => h2.fin S2 r⟩
    · exact h2.elim
theorem e_rev {a : CE} {x : Expr} {j : Int} {k : Nat} {p1 p2 p3 p : Pos} (ok : XOk G gx cl n c X W) (ha : PE X x (tE G gx cl W a)) (hj : (j == 1) = true) :
    PE X (.Subscript x (.Slice none none (some (.UnaryOp .USub (.Constant (.int j) k p1) p2)) p3) p) (tE G gx cl W (.rev a)) := by
  cases eq_of_beq hj
  refine PE.weak (pe_revL ha) fun σ H Q ⟨ow, s, SR, h⟩ => ?_
  unfold evE at h
  refine ⟨ow, s, SR, h.step fun x s1 ow1 H1 v e1 S1 r1 h1 => ?_⟩
  split at h1
  · rename_i x' ex
    have rr := late_rep S1 r1 ex
    unfold iRev at h1
    split at h1
    · obtain ⟨q, vs, rfl, hh, r⟩ := rr.sqL
      refine ⟨q, vs, rfl, .inl (.inl hh), fun p hp => ?_⟩
      exact h1.grow S1 (.new hp _) (new_lst S1.hr hp r.reverse)
    · exact h1.elim
  · exact h1.elim
/-- a slice's part -/
def tO (G : Gd) (gx : Gx) (cl : Nat → List IV → Sto → Rc) (W : WX) (a : CE) : TO := fun σ H Q => ∃ ow s, SRel G ow H s σ ∧ Po G gx W σ (fun _ _ v o => ofI v = some o) Q ow H ((evE cl a s).bind (chkP a))
theorem o_none {a : CE} (h : isNon a = true) : PO X none (tO G gx cl W a) := ⟨fun pins s σ H Q I hw => po_none.run pins s σ H Q I (by
  obtain ⟨ow, s, SR, hw⟩ := hw
  unfold isNon at h
  split at h
  · unfold evE at hw
    exact Po.fin (b := none) hw SR rfl
  · cases h)⟩
theorem o_some {a : CE} {x : Expr} (h : isNon a = false) (nb : isBrw a = false) (ha : PE X x (tE G gx cl W a)) : PO X (some x) (tO G gx cl W a) := ⟨fun pins s σ H Q I hw => (po_some ha).run pins s σ H Q I (by
  obtain ⟨ow, s, SR, hw⟩ := hw
  refine ⟨ow, s, SR, hw.step fun v s1 ow1 H1 y e1 S1 r1 h1 => ?_⟩
  unfold chkP okP at h1
  rw [h, Bool.false_or] at h1
  have rr := r1.rep nb
  cases v <;> first
    | (cases rr
       exact ⟨_, rfl, Po.fin (b := some _) h1 S1 rfl⟩)
    | exact (show False from h1).elim)⟩
theorem e_sli {a lo hi : CE} {x : Expr} {l h : Option Expr} {p1 p2 : Pos} (ok : XOk G gx cl n c X W) (ha : PE X x (tE G gx cl W a)) (hl : PO X l (tO G gx cl W lo)) (hh : PO X h (tO G gx cl W hi)) :
    PE X (.Subscript x (.Slice l h none p1) p2) (tE G gx cl W (.sli a lo hi)) :=
  PE.weak (pe_slice (sl_all ok.hK) ha hl hh) fun σ H Q ⟨ow, s, SR, h⟩ => by
    unfold evE at h
    refine ⟨ow, s, SR, h.step fun x s1 ow1 H1 v e1 S1 r1 h1 => ⟨ow1, s1, S1, h1.step fun y s2 ow2 H2 w e2 S2 r2 h2 => ⟨ow2, s2, S2, h2.step fun z s3 ow3 H3 u e3 S3 r3 h3 => ?_⟩⟩⟩
    split at h3
    · rename_i x' ex
      cases hz : iSli x' y z with
      | none => rw [hz] at h3; exact h3.elim
      | some q =>
        rw [hz] at h3
        exact ⟨ow3, s3.h, x', y, z, q, S3.hr, late_rep S3 (r1.ext (e2.trans e3)) ex, r2, r3, hz, fun H' v g r => h3.grow S3 g r⟩
    · exact h3.elim

/-! rows of arguments -/
theorem l_nil : PA X [] (tL G gx cl W .nil) := PA.weak pa_nil fun σ H Q ⟨ow, s, SR, h⟩ => by
  unfold evL at h
  exact Po.fin (b := []) h SR .nil
theorem l_cons {a : CE} {l : CL} {x : Expr} {xs : List Expr} (ha : PE X x (tE G gx cl W a)) (hl : PA X xs (tL G gx cl W l)) (hn : nst x = true) : PA X (x :: xs) (tL G gx cl W (.cons a l)) :=
  PA.weak (pa_cons ha hl (star_cons hn)) fun σ H Q ⟨ow, s, SR, h⟩ => by
    unfold evL at h
    refine ⟨ow, s, SR, h.step fun x s1 ow1 H1 v e1 S1 r1 h1 => ⟨ow1, s1, S1, h1.step fun y s2 ow2 H2 w e2 S2 r2 h2 => ?_⟩⟩
    exact Po.fin (b := v :: w) h2 S2 (.cons (r1.ext e2) r2)
theorem chkL_nst {c : Ck} : ∀ {l : CL} {xs : List Expr}, chkL c l xs = true → xs.all nst = true
  | .nil, [], _ => rfl
  | .cons a l, x :: xs, h => by
    unfold chkL at h
    simp only [Bool.and_eq_true] at h
    rw [List.all_cons, h.1.2, chkL_nst h.2]; rfl
  | .nil, _ :: _, h => by simp [chkL] at h
  | .cons _ _, [], h => by simp [chkL] at h

theorem chkL_len {c : Ck} {σ : L2.St} {ow : Ow} {H : Hp} : ∀ {l : CL} {xs : List Expr} {us : List IV} {vs : List V}, chkL c l xs = true → VRels G σ ow H l us vs → vs.length = xs.length
  | .nil, [], _, _, _, .nil => rfl
  | .cons a l, x :: xs, _, _, h, .cons _ t => by
    unfold chkL at h
    simp only [Bool.and_eq_true] at h
    rw [List.length_cons, List.length_cons, chkL_len h.2 t]
  | .nil, _ :: _, _, _, h, _ => by simp [chkL] at h
  | .cons _ _, [], _, _, h, _ => by simp [chkL] at h

/-! calls -/
theorem e_call {x y : Str} {f : Nat} {es : CL} {xs : List Expr} {p1 p2 : Pos} (ok : XOk G gx cl n c X W) (hg : glB c.sc x = true) (hf : c.gt.fn.lookup x = some f) (hl : PA X xs (tL G gx cl W es)) (hc : chkL c es xs = true) (nb : noBrw es = true) (har : xs.length = c.gt.ar f) :
    PE X (.Call (.Name x p1) xs [] p2) (tE G gx cl W (.call y f es)) := by
  obtain ⟨fa, fd, ps, h1, h2, h3, h4, h5⟩ := ok.gl.fn x f hf
  obtain ⟨g1, g2, g3⟩ := ok.gls hg
  have hn := chkL_nst hc
  have key : ∀ σ H Q, tE G gx cl W (.call y f es) σ H Q → tCallS (spF G gx ps.length (cl f)) (WE W) (tL G gx cl W es) σ H Q := fun σ H Q ⟨ow, s, SR, h⟩ => by
    unfold evE at h
    refine ⟨ow, s, SR, h.step fun us s1 ow1 H1 vs e1 S1 r1 q1 => ?_⟩
    exact spF_of S1 (by rw [chkL_len hc r1, har, h5]) (r1.reps nb) q1
  match xs, hl, hn, hc with
  | [], hl, hn, hc =>
    refine PE.weak (pe_callG0 h4 ok.rm ok.gd g1 h1 h2 h3 ok.ps g2) fun σ H Q h => ?_
    have k := key σ H Q h
    obtain ⟨ow, s, SR, k⟩ := k
    cases es with
    | nil =>
      unfold evL at k
      exact Po.fin (b := []) k SR .nil
    | cons a l => simp [chkL] at hc
  | e :: es', hl, hn, hc =>
    rw [List.all_cons, Bool.and_eq_true] at hn
    exact PE.weak (pe_callG h4 ok.rm ok.gd g1 h1 h2 h3 ok.ps hl g2 (star_cons hn.1) (star_any hn.2)) key
theorem bltN_ne (b : Blt) : b ≠ .gcd → (bltN b == ("gcd" : Str)) = false := by cases b <;> intro h <;> first | (exact absurd rfl h) | decide
theorem boot_b (b : Blt) (h : b ≠ .gcd) : bootBuiltins (bltN b) = some (bltV b) := by cases b <;> first | (exact absurd rfl h) | rfl
theorem e_blt {b : Blt} {x : Str} {es : CL} {z : Expr} {xs : List Expr} {p1 p2 : Pos} (ok : XOk G gx cl n c X W) (hx : (x == bltN b) = true) (hg : glB c.sc x = true) (hb : c.gt.bl.contains x = true) (hl : PA X (z :: xs) (tL G gx cl W es)) (hc : chkL c es (z :: xs) = true) :
    PE X (.Call (.Name x p1) (z :: xs) [] p2) (tE G gx cl W (.blt b es)) := by
  cases eq_of_beq hx
  obtain ⟨g1, g2, g3⟩ := ok.gls hg
  have hn := chkL_nst hc
  rw [List.all_cons, Bool.and_eq_true] at hn
  have cr := cr_blt b ok.hK ok.cm ok.gd ok.u66
  have key : ∀ σ H Q, tE G gx cl W (.blt b es) σ H Q → tCB (rBlt G (iBlt b)) (tL G gx cl W es) σ H Q := fun σ H Q ⟨ow, s, SR, h⟩ => by
    unfold evE at h
    refine ⟨ow, s, SR, h.step fun us s1 ow1 H1 vs e1 S1 r1 q1 => ?_⟩
    split at q1
    · rename_i ys ey
      cases hz : iBlt b ys with
      | none => rw [hz] at q1; exact q1.elim
      | some z =>
        rw [hz] at q1
        exact ⟨ow1, s1.h, ys, z, S1.hr, lateL_reps S1 r1 ey, hz, fun H' v g r => q1.grow S1 g r⟩
    · exact q1.elim
  by_cases hq : b = .gcd
  · subst hq
    exact PE.weak (pe_callBfun cr g1 (ok.gl.gc hb) hl g2 (star_cons hn.1) (star_any hn.2)) key
  · have hm := ok.gl.bl _ hb (bltN_ne b hq)
    have hbo := boot_b b hq
    cases b <;> first
      | exact absurd rfl hq
      | exact PE.weak (pe_callB cr g1 hm hbo hl g3 g2 (star_cons hn.1) (star_any hn.2)) key
      | exact PE.weak (pe_callTy cr g1 hm hbo hl g3 g2 (star_cons hn.1) (star_any hn.2)) key
/-- isinstance with one built-in class -/
theorem tyx_rep {ow : Ow} {H : Hp} {x : IV} {v : V} {T : String} {k : Bool} (r : RepB G ow H x v) (h : isOf x T = some k) (hT : ["tuple", "str", "dict", "int", "bool", "list"].contains T = true) : ∃ t, TyX G.K H v t ∧ PySem.W.kitOne G.K t (.type T) = some k := by
  have hT' : T = "tuple" ∨ T = "str" ∨ T = "dict" ∨ T = "int" ∨ T = "bool" ∨ T = "list" := by
    simpa using hT
  have go : ∀ {a : String}, TyX G.K H v (.type a) → kitB a T = some k → ∃ t, TyX G.K H v t ∧ PySem.W.kitOne G.K t (.type T) = some k := fun {a} h2 h3 => ⟨_, h2, kit_ty h3⟩
  unfold isOf at h
  split at h
  · cases r.non
    cases h
    refine go (.base .non) ?_
    rcases hT' with rfl | rfl | rfl | rfl | rfl | rfl <;> decide +kernel
  · cases r.bl
    cases h
    refine go (.base (.bl _)) ?_
    rcases hT' with rfl | rfl | rfl | rfl | rfl | rfl <;> decide +kernel
  · cases r.int
    cases h
    refine go (.base (.int _)) ?_
    rcases hT' with rfl | rfl | rfl | rfl | rfl | rfl <;> decide +kernel
  · cases r.str
    cases h
    refine go (.base (.str _)) ?_
    rcases hT' with rfl | rfl | rfl | rfl | rfl | rfl <;> decide +kernel
  · obtain ⟨p, vs, rfl, h1, r1⟩ := r.sqT
    cases h
    have ty : TyX G.K H (.ref p) (.type "tuple") := by
      rcases h1.sq with (h1 | ⟨o, h1⟩) | ⟨o, its, k, e, h1, _⟩
      · exact .base (.tup h1)
      · exact .fTuple h1
      · exact .kTuple e h1
    refine go ty ?_
    rcases hT' with rfl | rfl | rfl | rfl | rfl | rfl <;> decide +kernel
  · obtain ⟨p, vs, rfl, h1, r1⟩ := r.sqL
    cases h
    refine go (.base (.lst h1)) ?_
    rcases hT' with rfl | rfl | rfl | rfl | rfl | rfl <;> decide +kernel
  · cases h
    have rd : ∃ p kvs, v = .ref p ∧ Rd H p (.dK kvs) := by
      cases r with
      | of r => cases r with
        | dct h n d r => cases d with
          | k kvs h1 h2 => exact ⟨_, _, rfl, h⟩
      | dct h d r => cases d with
          | k kvs h1 h2 => exact ⟨_, _, rfl, h⟩
    obtain ⟨p, kvs, rfl, h1⟩ := rd
    have ty : TyX G.K H (.ref p) (.type "dict") := by
      rcases h1 with h1 | ⟨o, h1⟩
      · exact .base (.dK h1)
      · exact .fDict h1
    refine go ty ?_
    rcases hT' with rfl | rfl | rfl | rfl | rfl | rfl <;> decide +kernel
  · cases h
theorem boot_cls {T : String} (hT : ["tuple", "str", "dict", "int", "bool", "list"].contains T = true) : bootBuiltins (Str.ofString T) = some (.type T) ∧ (Str.ofString T == ("gcd" : Str)) = false := by
  have hT' : T = "tuple" ∨ T = "str" ∨ T = "dict" ∨ T = "int" ∨ T = "bool" ∨ T = "list" := by
    simpa using hT
  rcases hT' with rfl | rfl | rfl | rfl | rfl | rfl <;> exact ⟨rfl, by decide⟩
theorem e_isi {a : CE} {T : String} {f y : Str} {x : Expr} {p1 p2 p3 : Pos} (ok : XOk G gx cl n c X W) (hf : (f == ("isinstance" : Str)) = true) (hg : glB c.sc f = true) (hb : c.gt.bl.contains f = true) (ha : PE X x (tE G gx cl W a)) (nb : isBrw a = false) (hn : nst x = true)
    (hy : (y == Str.ofString T) = true) (hgy : glB c.sc y = true) (hby : c.gt.bl.contains y = true) (hT : ["tuple", "str", "dict", "int", "bool", "list"].contains T = true) :
    PE X (.Call (.Name f p1) [x, .Name y p2] [] p3) (tE G gx cl W (.isi a [T])) := by
  cases eq_of_beq hf
  cases eq_of_beq hy
  obtain ⟨g1, g2, g3⟩ := ok.gls hg
  obtain ⟨k1, k2, k3⟩ := ok.gls hgy
  obtain ⟨b1, b2⟩ := boot_cls hT
  have hty : PE X (.Name (Str.ofString T) p2) (tC (.ty T)) := pe_bltn k1 (ok.gl.bl _ hby b2) b1 rfl k3 k2
  have hl : PA X [x, .Name (Str.ofString T) p2] (tCons (tE G gx cl W a) (tCons (tC (.ty T)) tNil)) := pa_cons ha (pa_cons hty pa_nil (star_cons rfl)) (star_cons hn)
  refine PE.weak (pe_callB call_isi g1 (ok.gl.bl _ hb (by decide)) rfl hl g3 g2 (star_cons hn) (star_any (by rfl))) fun σ H Q ⟨ow, s, SR, h⟩ => ?_
  unfold evE at h
  refine ⟨ow, s, SR, h.step fun x s1 ow1 H1 v e1 S1 r1 h1 => ?_⟩
  cases hk : isOf (deref s1.h x) T with
  | none =>
    unfold isoL at h1
    rw [hk] at h1
    exact h1.elim
  | some k =>
    obtain ⟨t, t1, t2⟩ := tyx_rep ((r1.rep nb).deref S1.hr) hk hT
    have h2 : Po G gx W σ (VRel G σ (.isi a [T])) Q ow1 H1 (.ok (.bl k) s1) := by
      unfold isoL at h1
      rw [hk] at h1
      cases k with
      | true => exact h1
      | false => exact h1
    exact ⟨v, .ty T, t, .type T, k, rfl, .ty T, by rw [ok.hK]; exact t1, by rw [ok.hK]; exact t2, h2.fin S1 (.bl k)⟩

/-! methods -/
theorem attr_base {o : Expr} {env : Env} (h : isSup o = false) {m : Str} : attributeBase o m env (eval o env) = eval o env := by
  unfold attributeBase
  split
  · cases h
  · rfl
theorem lsAt_rep {o : CE} {v : IV} {x : V} {s : S} {xs : List IV} {σ : L2.St} {ow : Ow} {H : Hp} (SR : SRel G ow H s σ) (r : VRel G σ o ow H v x) (e : lsAt o v s = some xs) : ∃ a vs, x = .ref a ∧ H a = some (.lst vs) ∧ RepVs G ow H xs vs ∧
    ∀ ys ws, (∀ H', Ext ow H ow H' → RepVs G ow H' ys ws) → Ext ow H ow (upd H a (.lst ws)) ∧ SRel G ow (upd H a (.lst ws)) (lsPut o v ys s) σ := by
  have store : ∀ (n : Nat), RepV G ow H (.obj n) x → s.h[n]? = some (.lst xs) → ∃ a vs, x = .ref a ∧ H a = some (.lst vs) ∧ RepVs G ow H xs vs ∧
      ∀ ys ws, (∀ H', Ext ow H ow H' → RepVs G ow H' ys ws) → Ext ow H ow (upd H a (.lst ws)) ∧ SRel G ow (upd H a (.lst ws)) ⟨s.r, s.h.set n (.lst ys)⟩ σ := fun n rn hn => by
    cases rn with
    | obj ho =>
      obtain ⟨a, h1, h2⟩ := SR.hr.ob _ _ hn
      cases SR.hr.inj _ _ _ h1 ho
      cases h2 with
      | lst h2 r2 => exact ⟨_, _, rfl, h2, r2, fun ys ws hy => obj_set (o := .lst ys) (u := .lst ws) SR h1 fun H' e1 h3 => .lst h3 (hy H' e1)⟩
  unfold lsAt at e
  unfold lsPut
  split at e
  · rename_i i
    have r' : σ[i]? = some (some x) := r
    split at e
    · rename_i zs e1
      cases e
      obtain ⟨x', h1, h2⟩ := SR.sl _ _ (getS_some e1)
      rw [r'] at h1; cases h1
      cases h2 with
      | @ol a _ vs o2 h2 r2 =>
        refine ⟨_, vs, rfl, h2, r2, fun ys ws hy => ?_⟩
        exact own_set (sv := .ol ys) (u := .lst ws) SR o2 r' fun H' e3 h3 => .ol o2 h3 (hy H' e3)
    · rename_i n e1
      split at e
      · rename_i zs e2
        cases e
        obtain ⟨x', h1, h2⟩ := SR.sl _ _ (getS_some e1)
        rw [r'] at h1; cases h1
        cases h2 with
        | v h2 =>
          obtain ⟨a, vs, q1, q2, q3, q4⟩ := store n h2 e2
          refine ⟨a, vs, q1, q2, q3, fun ys ws hy => ?_⟩
          exact q4 ys ws hy
      · cases e
    · cases e
  · rename_i hn
    have hb : isBrw o = false := by cases o <;> first | rfl | exact absurd rfl (hn _)
    have rr := r.rep hb
    split at e
    · rename_i n
      split at e
      · rename_i zs e2
        cases e
        exact store n rr e2
      · cases e
    · cases e
theorem few1 {y : Expr} {env : Env} {p : Pos} (hn : nst y = true) : ((backTo p (starEach [y] env)).all (fun x => !x.1) && (backToKw p (keywordEach [] env)).all (fun x => x.1.isSome)
      && decide (([y] : List Expr).length + ([] : List Keyword).length + (if ([] : List Keyword).isEmpty then 0 else 1) < 30)) = true := by
  rw [star_cons hn]
  rfl
theorem e_app {o e : CE} {x y : Expr} {m : Str} {p1 p2 : Pos} (hm : (m == ("append" : Str)) = true) (hs : isSup x = false) (hp : (p1.endLine == p2.line) = true) (ho : PE X x (tE G gx cl W o)) (he : PE X y (tE G gx cl W e)) (nb : isBrw e = false) (hn : nst y = true) :
    PE X (.Call (.Attribute x m p1) [y] [] p2) (tE G gx cl W (.app o e)) := by
  cases eq_of_beq hm
  refine PE.weak (pe_bm PySem.F.plainAttrs_list PySem.F.slot_list_append PySem.F.type_list_append mt_append ho (pa_cons he pa_nil (star_cons hn)) (attr_base hs) (few1 hn) hp (star_cons hn) (star_any (by rfl))) fun σ H Q ⟨ow, s, SR, h⟩ => ?_
  unfold evE at h
  refine ⟨ow, s, SR, h.step fun x s1 ow1 H1 v e1 S1 r1 h1 => ?_⟩
  split at h1
  · rename_i zs ez
    obtain ⟨a, vs, hx, h2, r2, _⟩ := lsAt_rep S1 r1 ez
    refine ⟨?_, ow1, s1, S1, h1.step fun y s2 ow2 H2 w e2 S2 r3 h3 => ?_⟩
    · rw [hx]; exact .inl ⟨rfl, _, .inl (.inl h2)⟩
    · split at h3
      · rename_i us eu
        split at h3
        · rename_i hz
          obtain ⟨a2, vs2, hx2, h4, r4, put⟩ := lsAt_rep S2 (r1.ext e2) eu
          have hz' : vs2.length < sizeLine := by rw [← r4.length]; exact Nat.le_of_ble_eq_true hz
          obtain ⟨e5, S5⟩ := put (us ++ [y]) (vs2 ++ [w]) fun H' e6 => (r4.ext e6).append (.cons ((r3.rep nb).ext e6) .nil)
          exact ⟨a2, vs2, w, hx2, rfl, h4, hz', (Po.ext h3 e5).fin S5 .non⟩
        · exact h3.elim
      · exact h3.elim
  · exact h1.elim
theorem e_ext {o e : CE} {x y : Expr} {m : Str} {p1 p2 : Pos} (hm : (m == ("extend" : Str)) = true) (hs : isSup x = false) (hp : (p1.endLine == p2.line) = true) (ho : PE X x (tE G gx cl W o)) (he : PE X y (tE G gx cl W e)) (hn : nst y = true) :
    PE X (.Call (.Attribute x m p1) [y] [] p2) (tE G gx cl W (.ext o e)) := by
  cases eq_of_beq hm
  refine PE.weak (pe_bm PySem.F.plainAttrs_list PySem.F.slot_list_extend PySem.F.type_list_extend mt_extend ho (pa_cons he pa_nil (star_cons hn)) (attr_base hs) (few1 hn) hp (star_cons hn) (star_any (by rfl))) fun σ H Q ⟨ow, s, SR, h⟩ => ?_
  unfold evE at h
  refine ⟨ow, s, SR, h.step fun x s1 ow1 H1 v e1 S1 r1 h1 => ?_⟩
  split at h1
  · rename_i zs ez
    obtain ⟨a, vs, hx, h2, r2, _⟩ := lsAt_rep S1 r1 ez
    refine ⟨?_, ow1, s1, S1, h1.step fun y s2 ow2 H2 w e2 S2 r3 h3 => ?_⟩
    · rw [hx]; exact .inl ⟨rfl, _, .inl (.inl h2)⟩
    · split at h3
      · rename_i us ys eu ey
        split at h3
        · rename_i hz
          obtain ⟨a2, vs2, hx2, h4, r4, put⟩ := lsAt_rep S2 (r1.ext e2) eu
          obtain ⟨b, ws, hw, h5, r5⟩ := (late_rep S2 r3 ey).sqL
          have hz' := lineOk_le hz
          rw [r4.length, r5.length] at hz'
          obtain ⟨e5, S5⟩ := put (us ++ ys) (vs2 ++ ws) fun H' e6 => (r4.ext e6).append (r5.ext e6)
          exact ⟨a2, b, vs2, ws, hx2, by rw [hw], h4, h5, hz', (Po.ext h3 e5).fin S5 .non⟩
        · exact h3.elim
      · exact h3.elim
  · exact h1.elim
theorem RepVs.dropLast {ow : Ow} {H : Hp} : ∀ {xs : List IV} {vs : List V}, RepVs G ow H xs vs → RepVs G ow H xs.dropLast vs.dropLast
  | _, _, .nil => .nil
  | _, _, .cons _ .nil => .nil
  | _, _, .cons r (.cons r2 t) => .cons r (RepVs.dropLast (.cons r2 t))
theorem e_pop {o : CE} {x : Expr} {m : Str} {p1 p2 : Pos} (hm : (m == ("pop" : Str)) = true) (hs : isSup x = false) (hp : (p1.endLine == p2.line) = true) (ho : PE X x (tE G gx cl W o)) :
    PE X (.Call (.Attribute x m p1) [] [] p2) (tE G gx cl W (.pop o)) := by
  cases eq_of_beq hm
  refine PE.weak (pe_bm0 PySem.F.plainAttrs_list PySem.F.slot_list_pop PySem.F.type_list_pop mt_pop ho (attr_base hs) hp) fun σ H Q ⟨ow, s, SR, h⟩ => ?_
  unfold evE at h
  refine ⟨ow, s, SR, h.step fun x s1 ow1 H1 v e1 S1 r1 h1 => ?_⟩
  split at h1
  · rename_i us eu
    split at h1
    · rename_i y ey
      obtain ⟨a2, vs2, hx2, h4, r4, put⟩ := lsAt_rep S1 r1 eu
      obtain ⟨w, hw, rw'⟩ := r4.get ey
      obtain ⟨e5, S5⟩ := put us.dropLast vs2.dropLast fun H' e6 => (r4.ext e6).dropLast
      refine ⟨by rw [hx2]; exact .inl ⟨rfl, _, .inl (.inl h4)⟩, a2, vs2, w, hx2, rfl, h4, by rw [← r4.length]; exact hw, (Po.ext h1 e5).fin S5 (rw'.ext e5)⟩
    · exact h1.elim
  · exact h1.elim
end
end Mi

/-! Mi: new lists, targets, walks -/
namespace Mi
open PySem L2 PyProof.Rows

section
variable {G : Gd} {gx : Gx} {cl : Nat → List IV → Sto → Rc} {n : Nat} {c : Ck} {X : Cx} {W : WX} {ow ow' : Ow} {H H' : Hp} {σ : L2.St} {s : S}
/-! ### an owner is turned -/
/-- the owner of p is turned; nobody is to keep it -/
theorem turn_ext {p : Addr} {o o' : Own} (ho : ow p = some o) (h1 : o ≠ .fo) (h2 : ∀ n, o ≠ .hp n) {q : Option Own} : Ext ow H (owUp ow p q) H := by
  refine ⟨fun b u hb n => ⟨hb, ?_⟩, fun b hb => ⟨?_, rfl⟩, fun b n hb => ?_⟩
  · rw [owUp_ne (by rintro rfl; rw [ho] at n; cases n)]; exact n
  · rw [owUp_ne (by rintro rfl; rw [ho] at hb; cases hb; exact h1 rfl)]; exact hb
  · rw [owUp_ne (by rintro rfl; rw [ho] at hb; cases hb; exact h2 n rfl)]; exact hb
theorem turn_ext0 {p : Addr} {o : Own} (ho : ow p = some o) (h2 : ∀ n, o ≠ .hp n) {q : Option Own} : Ext0 ow H (owUp ow p q) H := by
  refine ⟨fun b u hb n => ⟨hb, ?_⟩, fun b n hb => ?_⟩
  · rw [owUp_ne (by rintro rfl; rw [ho] at n; cases n)]; exact n
  · rw [owUp_ne (by rintro rfl; rw [ho] at hb; cases hb; exact h2 n rfl)]; exact hb
theorem turn_srel {p : Addr} {o : Own} (SR : SRel G ow H s σ) (ho : ow p = some o) (h2 : ∀ n, o ≠ .hp n) (h3 : ∀ i, o ≠ .sl i) {q : Option Own} (hq : ∀ n, q ≠ some (.hp n)) : SRel G (owUp ow p q) H s σ := by
  have e := turn_ext0 (H := H) (q := q) ho h2
  refine ⟨SR.hr.turn e (a := p) (by rw [ho]; intro n z; cases z; exact h2 n rfl) (by rw [owUp_same]; exact hq) (fun b hb => ⟨owUp_ne hb, rfl⟩) (SR.hr.wf p _ ho), fun j sw hj => ?_⟩
  obtain ⟨y, k1, k2⟩ := SR.sl j sw hj
  exact ⟨y, k1, k2.ext0 e fun b hb => ⟨by rw [owUp_ne (by rintro rfl; rw [ho] at hb; cases hb; exact h3 j rfl)]; exact hb, rfl⟩⟩
/-- .. to the store -/
theorem turn_obj {p : Addr} {o : Own} {io : IO} (SR : SRel G ow H s σ) (ho : ow p = some o) (h2 : ∀ n, o ≠ .hp n) (h3 : ∀ i, o ≠ .sl i) (hs : ∀ ow', Ext0 ow H ow' H → OAt G ow' H p io) : SRel G (owUp ow p (some (.hp s.h.length))) H ⟨s.r, s.h ++ [io]⟩ σ := by
  have e := turn_ext0 (H := H) (q := some (.hp s.h.length)) ho h2
  have ne : ∀ b m, ow b = some (.hp m) → b ≠ p := fun b m hb => by rintro rfl; rw [ho] at hb; cases hb; exact h2 m rfl
  refine ⟨⟨fun b w hb => ?_, fun m w h1 => ?_, fun m b d hb hc => ?_, fun m b hb => ?_⟩, fun j sw hj => ?_⟩
  · by_cases q : b = p
    · subst q; exact SR.hr.wf b _ ho
    · rw [owUp_ne q] at hb
      exact SR.hr.wf b w hb
  · rcases Nat.lt_or_ge m s.h.length with q | q
    · rw [List.getElem?_append_left q] at h1
      obtain ⟨b, k2, k3⟩ := SR.hr.ob m w h1
      exact ⟨b, by rw [owUp_ne (ne b _ k2)]; exact k2, k3.ext0 e rfl⟩
    · rw [List.getElem?_append_right q] at h1
      have z : m - s.h.length = 0 := by
        cases q2 : m - s.h.length with
        | zero => rfl
        | succ k => rw [q2] at h1; simp at h1
      rw [z] at h1
      have h1' : w = io := by simpa using h1.symm
      subst h1'
      have q3 : m = s.h.length := by omega
      subst q3
      exact ⟨p, owUp_same, hs _ e⟩
  · by_cases q : b = p
    · by_cases q2 : d = p
      · rw [q, q2]
      · exfalso
        subst q
        rw [owUp_same] at hb; cases hb
        rw [owUp_ne q2] at hc
        exact absurd (SR.hr.dom _ d hc) (Nat.lt_irrefl _)
    · by_cases q2 : d = p
      · exfalso
        subst q2
        rw [owUp_same] at hc; cases hc
        rw [owUp_ne q] at hb
        exact absurd (SR.hr.dom _ b hb) (Nat.lt_irrefl _)
      · rw [owUp_ne q] at hb
        rw [owUp_ne q2] at hc
        exact SR.hr.inj m b d hb hc
  · show m < (s.h ++ [io]).length
    rw [List.length_append, List.length_singleton]
    by_cases q : b = p
    · subst q
      rw [owUp_same] at hb; cases hb
      exact Nat.lt_succ_self _
    · rw [owUp_ne q] at hb
      exact Nat.lt_succ_of_lt (SR.hr.dom m b hb)
  · obtain ⟨y, k1, k2⟩ := SR.sl j sw hj
    exact ⟨y, k1, k2.ext0 e fun b hb => ⟨by rw [owUp_ne (by rintro rfl; rw [ho] at hb; cases hb; exact h3 j rfl)]; exact hb, rfl⟩⟩
/-- a new object, for someone -/
theorem new_nw {p : Addr} {u : HO} {o : Own} (SR : SRel G ow H s σ) (hp : H p = none) (h2 : ∀ n, o ≠ .hp n) : Ext ow H (owUp ow p (some o)) (upd H p u) ∧ SRel G (owUp ow p (some o)) (upd H p u) s σ := by
  have nn := SR.hr.fresh hp
  have ne : ∀ b w, ow b = some w → b ≠ p := fun b w hb => by rintro rfl; rw [nn] at hb; cases hb
  have e : Ext ow H (owUp ow p (some o)) (upd H p u) := by
    refine ⟨fun b w hb n => ?_, fun b hb => ?_, fun b n hb => ?_⟩
    · have q : b ≠ p := by rintro rfl; rw [hp] at hb; cases hb
      rw [upd_ne q, owUp_ne q]; exact ⟨hb, n⟩
    · rw [upd_ne (ne b _ hb), owUp_ne (ne b _ hb)]; exact ⟨hb, rfl⟩
    · rw [owUp_ne (ne b _ hb)]; exact hb
  refine ⟨e, SR.hr.turn e.ext0 (a := p) (by rw [nn]; intro n z; cases z) (by rw [owUp_same]; intro n z; cases z; exact h2 n rfl) (fun b hb => ⟨owUp_ne hb, upd_ne hb⟩) ⟨u, upd_same⟩, fun j sw hj => ?_⟩
  obtain ⟨y, k1, k2⟩ := SR.sl j sw hj
  exact ⟨y, k1, k2.ext0 e.ext0 fun b hb => ⟨by rw [owUp_ne (ne b _ hb)]; exact hb, upd_ne (ne b _ hb)⟩⟩

/-! ### new lists -/
theorem vrF_new {p : Addr} {xs : List IV} {vs : List V} {Q : VK} (SR : SRel G ow H s σ) (hp : H p = none) (rr : RepVs G ow H xs vs) (h : Po G gx W σ (vrF G) Q ow H (.ok xs s)) : Q (.ref p) (upd H p (.lst vs)) := by
  obtain ⟨e, S1⟩ := new_nw (u := .lst vs) (o := .nw) SR hp (by intro n z; cases z)
  exact (Po.ext h e).fin S1 ⟨p, vs, rfl, upd_same, owUp_same, rr.ext e⟩
theorem fr_reads {m : Bool} {f : CF} {Q : VK} (h : tE G gx cl W (.fr m f) σ H Q) : tF G gx cl W f σ H Q := by
  obtain ⟨ow, s, SR, h⟩ := h
  unfold evE at h
  refine ⟨ow, s, SR, h.at (.refl _ _) fun xs s1 ow1 H1 v e1 S1 ⟨p, vs, hv, hp, op, rr⟩ h1 => ?_⟩
  subst hv
  have ext : ∀ q, Ext ow1 H1 (owUp ow1 p q) H1 := fun q => turn_ext (o' := .nw) op (by intro z; cases z) (by intro n z; cases z)
  split at h1
  · have S2 := turn_obj (io := .lst xs) S1 op (by intro n z; cases z) (by intro n z; cases z) fun ow' e => .lst hp (rr.ext0 e)
    exact h1.fin' (e1.trans (ext _)) S2 (.obj owUp_same)
  · have S2 := turn_srel (q := none) S1 op (by intro n z; cases z) (by intro n z; cases z) (by intro n z; cases z)
    exact h1.fin' (e1.trans (ext _)) S2 (.lst ⟨hp, owUp_same⟩ (rr.ext (ext _)))
theorem e_fr {m : Bool} {f : CF} {x : Expr} (hf : PE X x (tF G gx cl W f)) : PE X x (tE G gx cl W (.fr m f)) :=
  PE.weak hf fun σ H Q h => fr_reads h
theorem f_dsp {es : CL} {xs : List Expr} {p : Pos} (hl : PA X xs (tL G gx cl W es)) (nb : noBrw es = true) : PE X (.List xs p) (tF G gx cl W (.dsp es)) :=
  PE.weak (pe_lst hl) fun σ H Q ⟨ow, s, SR, h⟩ => by
    unfold evF at h
    refine ⟨ow, s, SR, h.step fun xs s1 ow1 H1 vs e1 S1 r1 h1 => ?_⟩
    have rr := r1.reps nb
    split at h1
    · rename_i hz
      exact ⟨by rw [← rr.length]; exact lineOk_le hz, fun p hp => vrF_new S1 hp rr h1⟩
    · exact h1.elim
theorem f_rep {a b : CE} {x y : Expr} {p : Pos} (ok : XOk G gx cl n c X W) (ha : PE X x (tE G gx cl W a)) (hb : PE X y (tE G gx cl W b)) : PE X (.BinOp x .Mult y p) (tF G gx cl W (.rep a b)) :=
  PE.weak (pe_op op_rep ha hb) fun σ H Q ⟨ow, s, SR, h⟩ => by
    unfold evF at h
    refine ⟨ow, s, SR, h.step fun x s1 ow1 H1 v e1 S1 r1 h1 => ⟨ow1, s1, S1, h1.step fun y s2 ow2 H2 w e2 S2 r2 h2 => ?_⟩⟩
    split at h2
    · rename_i xs k ex ey
      split at h2
      · rename_i hk
        obtain ⟨p, vs, rfl, k1, rr⟩ := (late_rep S2 (r1.ext e2) ex).sqL
        obtain rfl := (late_rep S2 r2 ey).int
        unfold repOk at hk
        simp only [Bool.and_eq_true, decide_eq_true_eq] at hk
        obtain ⟨⟨j1, j2⟩, j3⟩ := hk
        have j3 := lineOk_le j3
        rw [rr.length] at j3
        exact ⟨p, k, vs, rfl, rfl, k1, by omega, by omega, j3, fun d hd => vrF_new S2 hd (rr.rep _) h2⟩
      · exact h2.elim
    · exact h2.elim
theorem f_cat {a b : CE} {x y : Expr} {p : Pos} (ok : XOk G gx cl n c X W) (ha : PE X x (tE G gx cl W a)) (hb : PE X y (tE G gx cl W b)) : PE X (.BinOp x .Add y p) (tF G gx cl W (.cat a b)) :=
  PE.weak (pe_op op_cat ha hb) fun σ H Q ⟨ow, s, SR, h⟩ => by
    unfold evF at h
    refine ⟨ow, s, SR, h.step fun x s1 ow1 H1 v e1 S1 r1 h1 => ⟨ow1, s1, S1, h1.step fun y s2 ow2 H2 w e2 S2 r2 h2 => ?_⟩⟩
    split at h2
    · rename_i xs ys ex ey
      split at h2
      · rename_i hk
        obtain ⟨p, vs, rfl, k1, rr⟩ := (late_rep S2 (r1.ext e2) ex).sqL
        obtain ⟨p', vs', rfl, k1', rr'⟩ := (late_rep S2 r2 ey).sqL
        have hz := lineOk_le hk
        rw [rr.length, rr'.length] at hz
        exact ⟨p, p', vs, vs', rfl, rfl, k1, k1', hz, fun d hd => vrF_new S2 hd (rr.append rr') h2⟩
      · exact h2.elim
    · exact h2.elim
theorem f_sli {a lo hi : CE} {x : Expr} {l h : Option Expr} {p1 p2 : Pos} (ok : XOk G gx cl n c X W) (ha : PE X x (tE G gx cl W a)) (hl : PO X l (tO G gx cl W lo)) (hh : PO X h (tO G gx cl W hi)) :
    PE X (.Subscript x (.Slice l h none p1) p2) (tF G gx cl W (.sli a lo hi)) :=
  PE.weak (pe_slice sl_list ha hl hh) fun σ H Q ⟨ow, s, SR, h⟩ => by
    unfold evF at h
    refine ⟨ow, s, SR, h.step fun x s1 ow1 H1 v e1 S1 r1 h1 => ⟨ow1, s1, S1, h1.step fun y s2 ow2 H2 w e2 S2 r2 h2 => ⟨ow2, s2, S2, h2.step fun z s3 ow3 H3 u e3 S3 r3 h3 => ?_⟩⟩⟩
    split at h3
    · rename_i xs l' h' ex el eh
      obtain ⟨p, vs, rfl, k1, rr⟩ := (late_rep S3 (r1.ext (e2.trans e3)) ex).sqL
      rw [el] at r2; cases r2
      rw [eh] at r3; cases r3
      exact ⟨p, vs, rfl, SqL.of k1, fun d hd => vrF_new S3 hd (rr.cut _ _) h3⟩
    · rename_i xs l' h' ex el eh
      have lr := late_rep S3 (r1.ext (e2.trans e3)) ex
      rw [el] at r2; cases r2
      rw [eh] at r3; cases r3
      cases lr with
      | of lr => cases lr with
        | scr k1 rr => exact ⟨_, _, rfl, by rw [ok.hK]; exact k1.sq, fun d hd => vrF_new S3 hd (rr.cut _ _) h3⟩
    · exact h3.elim
theorem f_lof {a : CE} {x : Str} {y : Expr} {p1 p2 : Pos} (ok : XOk G gx cl n c X W) (hx : (x == ("list" : Str)) = true) (hg : glB c.sc x = true) (hb : c.gt.bl.contains x = true) (ha : PE X y (tE G gx cl W a)) (hn : nst y = true) :
    PE X (.Call (.Name x p1) [y] [] p2) (tF G gx cl W (.lof a)) := by
  cases eq_of_beq hx
  obtain ⟨g1, g2, g3⟩ := ok.gls hg
  refine PE.weak (pe_callTy call_list_of g1 (ok.gl.bl _ hb (by decide)) rfl (pa_cons ha pa_nil (star_cons hn)) g3 g2 (star_cons hn) (star_any (by rfl))) fun σ H Q ⟨ow, s, SR, h⟩ => ?_
  unfold evF at h
  refine ⟨ow, s, SR, h.step fun x s1 ow1 H1 v e1 S1 r1 h1 => ?_⟩
  split at h1
  · rename_i xs ex
    obtain ⟨p, vs, rfl, k1, rr⟩ := (late_rep S1 r1 ex).sqT
    exact ⟨p, vs, rfl, .inr (by rw [ok.hK]; exact k1.sq), fun d hd => vrF_new S1 hd rr h1⟩
  · rename_i xs ex
    obtain ⟨p, vs, rfl, k1, rr⟩ := (late_rep S1 r1 ex).sqL
    exact ⟨p, vs, rfl, .inl (SqL.of k1), fun d hd => vrF_new S1 hd rr h1⟩
  · exact h1.elim

/-! ### targets -/
/-- σ' is σ but at some slots -/
structure Only (vs : List Nat) (σ σ' : L2.St) : Prop where
  len : σ'.length = σ.length
  off : ∀ i, i ∉ vs → σ'[i]? = σ[i]?
theorem Only.refl {vs : List Nat} : Only vs σ σ := ⟨rfl, fun _ _ => rfl⟩
theorem Only.mono {vs ws : List Nat} {σ' : L2.St} (h : Only vs σ σ') (k : ∀ i ∈ vs, i ∈ ws) : Only ws σ σ' := ⟨h.len, fun i hi => h.off i fun z => hi (k i z)⟩
theorem Only.trans {vs ws : List Nat} {σ1 σ2 : L2.St} (h : Only vs σ σ1) (k : Only ws σ1 σ2) : Only (vs ++ ws) σ σ2 := ⟨k.len.trans h.len, fun i hi => by
  rw [List.mem_append] at hi
  rw [k.off i fun z => hi (.inr z), h.off i fun z => hi (.inl z)]⟩
/-- a slot takes a value -/
theorem SRel.set {x : IV} {v : V} (SR : SRel G ow H s σ) (i : Nat) (r : RepV G ow H x v) (hl : i < σ.length) : SRel G ow H ⟨s.r.set i (some (.v x)), s.h⟩ (σ.set i (some v)) := by
  refine ⟨SR.hr, fun j sv hj => ?_⟩
  by_cases q : j = i
  · subst q
    rw [List.getElem?_set] at hj
    rw [if_pos rfl] at hj
    split at hj
    · cases hj
      exact ⟨v, by rw [List.getElem?_set, if_pos rfl, if_pos hl], .v r⟩
    · cases hj
  · rw [List.getElem?_set_ne (Ne.symm q)] at hj
    obtain ⟨y, k1, k2⟩ := SR.sl j sv hj
    exact ⟨y, by rw [List.getElem?_set_ne (Ne.symm q)]; exact k1, k2⟩
def gT (G : Gd) (N : Nat) (t : TG) : L2.TGs := fun vs σ H Q => ∃ ow s xs r', SRel G ow H s σ ∧ σ.length = N ∧ RepVs G ow H xs vs ∧ asgT t xs s.r = some r' ∧ ∀ σ', Only (tgN t) σ σ' → SRel G ow H ⟨r', s.h⟩ σ' → Q σ' H
def g1 (G : Gd) (N : Nat) (t : TG) : L2.TG := fun v σ H Q => ∃ ow s x r', SRel G ow H s σ ∧ σ.length = N ∧ RepV G ow H x v ∧ asgT t [x] s.r = some r' ∧ ∀ σ', Only (tgN t) σ σ' → SRel G ow H ⟨r', s.h⟩ σ' → Q σ' H
theorem asg_len : ∀ {t : TG} {xs : List IV} {r r' : Rho} {es : List Expr}, asgT t xs r = some r' → isR t = true → chkTG c t es = true → es.length = xs.length
  | .nil, [], _, _, [], _, _, _ => rfl
  | .nil, [], _, _, _ :: _, _, _, h => by simp [chkTG] at h
  | .nil, _ :: _, _, _, _, h, _, _ => by simp [asgT] at h
  | .cons a b, x :: xs, r, r', e :: es, h, _, hc => by
    unfold asgT at h
    split at h
    · unfold chkTG at hc
      simp only [Bool.and_eq_true] at hc
      rw [List.length_cons, List.length_cons, asg_len h hc.1.1.1.2 hc.2]
    · cases h
  | .cons a b, [], _, _, _, h, _, _ => by simp [asgT] at h
  | .cons a b, _ :: _, _, _, [], _, _, h => by simp [chkTG] at h
  | .nm _, _, _, _, _, _, h, _ => by simp [isR] at h
  | .tp _, _, _, _, _, _, h, _ => by simp [isR] at h
theorem ae_cons {e : Expr} {es : List Expr} {env : Env} (h : nst e = true) : assignEach (e :: es) env = (false, assign e env) :: assignEach es env := by
  cases e <;> first | rfl | cases h
theorem chkTG_nst : ∀ {t : TG} {es : List Expr}, isR t = true → chkTG c t es = true → es.all nst = true
  | .nil, [], _, _ => rfl
  | .nil, _ :: _, _, h => by simp [chkTG] at h
  | .cons a b, e :: es, _, hc => by
    unfold chkTG at hc
    simp only [Bool.and_eq_true] at hc
    rw [List.all_cons, hc.1.1.2, chkTG_nst hc.1.1.1.2 hc.2]; rfl
  | .cons a b, [], _, h => by simp [chkTG] at h
  | .nm _, _, h, _ => by simp [isR] at h
  | .tp _, _, h, _ => by simp [isR] at h
theorem ae_len {env : Env} : ∀ {es : List Expr}, es.all nst = true → (assignEach es env).length = es.length ∧ (assignEach es env).findIdx? (·.1) = none
  | [], _ => ⟨rfl, rfl⟩
  | e :: es, h => by
    rw [List.all_cons, Bool.and_eq_true] at h
    obtain ⟨h1, h2⟩ := ae_len (env := env) h.2
    rw [ae_cons h.1]
    refine ⟨by rw [List.length_cons, List.length_cons, h1], ?_⟩
    rw [List.findIdx?_cons, h2]
    rfl
mutual
theorem pgs_of (ok : XOk G gx cl n c X W) : ∀ {t : TG} {es : List Expr}, isR t = true → chkTG c t es = true → PGs X es (gT G X.N.length t)
  | .nil, [], _, _ => ⟨fun pins s σ H vs us Q I r ⟨ow, st, xs, r', SR, hl, rr, ha, k⟩ => pgs_nil.run pins s σ H vs us Q I r (by
      cases xs with
      | nil =>
        cases rr
        have e : some st.r = some r' := by unfold asgT at ha; exact ha
        cases e
        exact ⟨rfl, k σ .refl SR⟩
      | cons x xs => simp [asgT] at ha)⟩
  | .nil, _ :: _, _, h => by simp [chkTG] at h
  | .cons a b, e :: es, _, hc => by
    unfold chkTG at hc
    simp only [Bool.and_eq_true] at hc
    have h1 := pg_of ok hc.1.1.1.1 hc.1.2
    have h2 := pgs_of ok hc.1.1.1.2 hc.2
    refine ⟨fun pins s σ H vs us Q I r hw => (pgs_cons h1 h2 (by rw [ae_cons hc.1.1.2]; rfl)).run pins s σ H vs us Q I r ?_⟩
    obtain ⟨ow, st, xs, r', SR, hl, rr, ha, k⟩ := hw
    cases xs with
    | nil => simp [asgT] at ha
    | cons x xs =>
      cases rr with
      | cons rx rr =>
        unfold asgT at ha
        split at ha
        · rename_i r1 h3
          refine ⟨_, _, rfl, ow, st, x, r1, SR, hl, rx, h3, fun σ1 o1 S1 => ?_⟩
          exact ⟨ow, ⟨r1, st.h⟩, xs, r', S1, o1.len.trans hl, rr, ha, fun σ2 o2 S2 => k σ2 (o1.trans o2) S2⟩
        · cases ha
  | .cons a b, [], _, h => by simp [chkTG] at h
  | .nm _, _, h, _ => by simp [isR] at h
  | .tp _, _, h, _ => by simp [isR] at h
theorem pg_of (ok : XOk G gx cl n c X W) : ∀ {t : TG} {e : Expr}, isS t = true → chkTG c t [e] = true → PG X e (g1 G X.N.length t)
  | .nm i, e, _, hc => by
    cases e with
    | Name x pos =>
      unfold chkTG wrB at hc
      simp only [Bool.and_eq_true, Bool.or_eq_true] at hc
      have hi : X.N[i]? = some x := by rw [ok.hN]; exact eq_of_beq hc.1
      have hloc : L2.Loc X.env.scope x ∧ (X.fn x = true ∨ X.env.scope.names.lookup x = some .local) := by
        unfold L2.Loc
        rw [ok.hS]
        rcases hc.2 with h | h
        · exact ⟨.inl (eq_of_beq h), .inr (eq_of_beq h)⟩
        · exact ⟨.inr (eq_of_beq h.1), .inl (ok.cf x h.2)⟩
      refine ⟨fun pins s σ H v u Q I r hw => (pg_name (pos := pos) ok.nd hi hloc.1 hloc.2).run pins s σ H v u Q I r ?_⟩
      obtain ⟨ow, st, y, r', SR, hl, rx, ha, k⟩ := hw
      have e : some (st.r.set i (some (.v y))) = some r' := by unfold asgT at ha; exact ha
      cases e
      have hlt : i < σ.length := by rw [hl]; exact (List.getElem?_eq_some_iff.mp hi).1
      refine k _ ⟨by rw [List.length_set], fun j hj => ?_⟩ (SR.set i rx hlt)
      unfold tgN at hj
      rw [List.getElem?_set_ne (by rintro rfl; exact hj (List.mem_singleton.mpr rfl))]
    | _ => simp [chkTG] at hc
  | .tp t, e, _, hc => by
    cases e with
    | Tuple es k pos =>
      unfold chkTG at hc
      simp only [Bool.and_eq_true] at hc
      have h := pgs_of ok hc.1 hc.2
      have hn := ae_len (env := X.env) (chkTG_nst hc.1 hc.2)
      refine ⟨fun pins s σ H v u Q I r hw => (pg_tup (pos := pos) (k := k) ok.cm h hn.1 hn.2).run pins s σ H v u Q I r ?_⟩
      obtain ⟨ow, st, y, r', SR, hl, rx, ha, kk⟩ := hw
      cases y with
      | tup xs =>
        cases rx with
        | tup ht rr =>
          have ha' : asgT t xs st.r = some r' := by
            unfold asgT at ha
            exact ha
          refine ⟨_, _, rfl, by rw [ok.hK]; exact ht.sq, ?_, ow, st, xs, r', SR, hl, rr, ha', kk⟩
          rw [← rr.length, asg_len ha' hc.1 hc.2]
      | _ => simp [asgT] at ha
    | _ => simp [chkTG] at hc
  | .nil, _, h, _ => by simp [isS] at h
  | .cons _ _, _, h, _ => by simp [isS] at h
end

/-! ### walks -/
/-- J walks xs -/
def ItAt (G : Gd) (ow : Ow) (H : Hp) (xs : List IV) (J : It) : Prop := ∀ i ow' H', Ext ow H ow' H' → (xs[i]? = none → J.stop i H') ∧ ∀ x, xs[i]? = some x → J.go i H' ∧ ∀ v H'', J.yld i H' v H'' → Grow H' H'' ∧ ((∀ p, H' p = none → ow' p = none) → RepV G ow' H'' x v)
theorem ItAt.ext {xs : List IV} {J : It} (h : ItAt G ow H xs J) (e : Ext ow H ow' H') : ItAt G ow' H' xs J := fun i ow2 H2 e2 => h i ow2 H2 (e.trans e2)
def tI (G : Gd) (gx : Gx) (cl : Nat → List IV → Sto → Rc) (W : WX) (c : CI) : TI := fun σ H R => ∃ ow s, SRel G ow H s σ ∧ Po G gx W σ (fun ow H xs J => ItAt G ow H xs J) R ow H (evI cl c s)
def iAny (K : PySem.W.Frag) (te : TE) : TI := fun σ H R => te σ H fun x H1 => (∃ a, x = .ref a ∧ (∃ xs, SqL K H1 a xs) ∧ R (Itl K a) H1) ∨ (∃ a, x = .ref a ∧ (∃ xs, SqT K H1 a xs) ∧ R (Itt K a) H1) ∨ ∃ z, x = .str z ∧ R (Its z) H1
theorem pi_any {tg e : Expr} {te : TE} (he : PE X e te) : PI X tg e (iAny X.K te) := ⟨fun pins s σ H R I h => thn (he.run pins s σ H _ I h) fun v s1 ⟨x, H1, I1, r1, q1⟩ => by
  rcases q1 with ⟨a, rfl, ⟨xs, hq⟩, q⟩ | ⟨a, rfl, ⟨xs, hq⟩, q⟩ | ⟨z, rfl, q⟩
  · cases r1
    obtain ⟨its, rv, p, hz⟩ := I1.list hq
    exact wpAny_pyIter_list p.isList (pi_one (tk := s1.toks) I1 _ (turn_list a _) ⟨_, Heap.get?_push_size _ rfl, rfl, rfl⟩ q)
  · cases r1
    obtain ⟨its, rv, p, hz⟩ := I1.tuple hq
    exact wpAny_pyIter_tuple p (pi_one (tk := s1.toks) I1 _ (turn_tuple a _) ⟨_, Heap.get?_push_size _ rfl, rfl, rfl⟩ q)
  · obtain ⟨t, rfl⟩ := r1
    by_cases ha : z.cps.all (· < 128) = true
    · exact wpAny_pyIter_ascii ha (pi_one (tk := s1.toks) I1 _ (turn_str _ z t "str_ascii_iterator" (.inl rfl)) ⟨_, Heap.get?_push_size _ rfl, rfl, rfl⟩ q)
    · exact wpAny_pyIter_wide (by simpa using ha) (pi_one (tk := s1.toks) I1 _ (turn_str _ z t "str_iterator" (.inr rfl)) ⟨_, Heap.get?_push_size _ rfl, rfl, rfl⟩ q)⟩
theorem PI.weak {tg e : Expr} {t t' : TI} (h : PI X tg e t) (k : ∀ σ H R, t' σ H R → t σ H R) : PI X tg e t' := ⟨fun pins s σ H R I q => h.run pins s σ H R I (k _ _ _ q)⟩
theorem it_list {a : Addr} {xs : List IV} {vs : List V} {K : PySem.W.Frag} (hK : K = G.K) (hl : LstAt ow H a vs ∨ ScrAt G ow H a vs) (rr : RepVs G ow H xs vs) : ItAt G ow H xs (Itl K a) := fun i ow' H' e => by
  have hq : SqL K H' a vs := by
    rcases hl with h | h
    · exact .inl (.inl (e.keep _ _ h.1 h.2).1)
    · rw [hK]; exact (h.ext e).sq
  have rr' := rr.ext e
  refine ⟨fun h => ⟨vs, hq, ?_⟩, fun x h => ?_⟩
  · rw [← rr.length]; exact List.getElem?_eq_none_iff.mp h
  · obtain ⟨v, h1, h2⟩ := rr'.get h
    refine ⟨⟨vs, v, hq, h1⟩, fun w H'' ⟨e1, e2⟩ => ?_⟩
    subst e1
    refine ⟨.refl, fun _ => ?_⟩
    have := e2 vs hq
    rw [h1] at this; cases this
    exact h2
theorem it_tup {a : Addr} {xs : List IV} {vs : List V} {K : PySem.W.Frag} (hK : K = G.K) (hl : TupAt G ow H a vs) (rr : RepVs G ow H xs vs) : ItAt G ow H xs (Itt K a) := fun i ow' H' e => by
  have hq : SqT K H' a vs := by rw [hK]; exact (hl.ext e).sq
  have rr' := rr.ext e
  refine ⟨fun h => ⟨vs, hq, ?_⟩, fun x h => ?_⟩
  · rw [← rr.length]; exact List.getElem?_eq_none_iff.mp h
  · obtain ⟨v, h1, h2⟩ := rr'.get h
    refine ⟨⟨vs, v, hq, h1⟩, fun w H'' ⟨e1, e2⟩ => ?_⟩
    subst e1
    refine ⟨.refl, fun _ => ?_⟩
    have := e2 vs hq
    rw [h1] at this; cases this
    exact h2
theorem it_str {z : Str} : ItAt G ow H (z.cps.toList.map fun c => .str ⟨#[c]⟩) (Its z) := fun i ow' H' e => by
  refine ⟨fun h => ?_, fun x h => ?_⟩
  · have := List.getElem?_eq_none_iff.mp h
    show z.cps.size ≤ i
    simpa using this
  · rw [List.getElem?_map] at h
    cases hc : z.cps.toList[i]? with
    | none => rw [hc] at h; cases h
    | some d =>
      rw [hc] at h; cases h
      have hd : z.cps[i]? = some d := by simpa using hc
      refine ⟨(Array.getElem?_eq_some_iff.mp hd).1, fun w H'' ⟨e1, d', e2, e3⟩ => ?_⟩
      subst e1 e3
      rw [hd] at e2; cases e2
      exact ⟨.refl, fun _ => .str _⟩
theorem it_rng {lo : Int} {m : Nat} : ItAt G ow H (rngL lo m) (Itr lo m) := fun i ow' H' e => by
  unfold rngL
  refine ⟨fun h => ?_, fun x h => ?_⟩
  · have := List.getElem?_eq_none_iff.mp h
    show m ≤ i
    simpa using this
  · rw [List.getElem?_map] at h
    cases hc : (List.range m)[i]? with
    | none => rw [hc] at h; cases h
    | some d =>
      rw [hc] at h; cases h
      have hd := List.getElem?_eq_some_iff.mp hc
      obtain ⟨h1, h2⟩ := hd
      rw [List.getElem_range] at h2
      subst h2
      refine ⟨show i < m by simpa using h1, fun w H'' ⟨e1, e3⟩ => ?_⟩
      subst e1 e3
      exact ⟨.refl, fun _ => .int _⟩
theorem far_p {i : Int} (h : far i = true) : -(2 ^ 62) ≤ i ∧ i < 2 ^ 62 := by
  unfold far at h
  simpa using h
theorem i_sq {a : CE} {tg x : Expr} (ok : XOk G gx cl n c X W) (ha : PE X x (tE G gx cl W a)) (nb : isBrw a = false) : PI X tg x (tI G gx cl W (.sq a)) :=
  PI.weak (pi_any ha) fun σ H R ⟨ow, s, SR, h⟩ => by
    unfold evI at h
    refine ⟨ow, s, SR, h.step fun x s1 ow1 H1 v e1 S1 r1 h1 => ?_⟩
    have rr := r1.rep nb
    unfold seqL at h1
    cases rr with
    | lst hl r => exact .inl ⟨_, rfl, ⟨_, .inl (.inl hl.1)⟩, Po.fin h1 S1 (it_list ok.hK (.inl hl) r)⟩
    | scr hl r => exact .inl ⟨_, rfl, ⟨_, by rw [ok.hK]; exact hl.sq⟩, Po.fin h1 S1 (it_list ok.hK (.inr hl) r)⟩
    | tup hl r => exact .inr (.inl ⟨_, rfl, ⟨_, by rw [ok.hK]; exact hl.sq⟩, Po.fin h1 S1 (it_tup ok.hK hl r)⟩)
    | str z => exact .inr (.inr ⟨_, rfl, Po.fin h1 S1 it_str⟩)
    | _ => exact h1.elim
theorem i_rng1 {a : CE} {x : Str} {tg y : Expr} {p1 p2 : Pos} (ok : XOk G gx cl n c X W) (hx : (x == ("range" : Str)) = true) (hg : glB c.sc x = true) (hb : c.gt.bl.contains x = true) (ha : PE X y (tE G gx cl W a)) (nb : isBrw a = false) (hn : nst y = true) :
    PI X tg (.Call (.Name x p1) [y] [] p2) (tI G gx cl W (.rng1 a)) := by
  cases eq_of_beq hx
  refine PI.weak (pi_range1 (ok.gls hg).1 (ok.gl.bl _ hb (by decide)) (pa_cons ha pa_nil (star_cons hn)) (star_cons hn)) fun σ H R ⟨ow, s, SR, h⟩ => ?_
  unfold evI at h
  refine ⟨ow, s, SR, h.step fun x s1 ow1 H1 v e1 S1 r1 h1 => ?_⟩
  have rr := r1.rep nb
  split at h1
  · cases rr
    split at h1
    · rename_i hf
      exact ⟨_, rfl, (far_p hf).1, (far_p hf).2, Po.fin h1 S1 it_rng⟩
    · exact h1.elim
  · exact h1.elim
theorem i_rng2 {a b : CE} {x : Str} {tg y z : Expr} {p1 p2 : Pos} (ok : XOk G gx cl n c X W) (hx : (x == ("range" : Str)) = true) (hg : glB c.sc x = true) (hb : c.gt.bl.contains x = true) (ha : PE X y (tE G gx cl W a)) (nb : isBrw a = false) (hn : nst y = true)
    (hb' : PE X z (tE G gx cl W b)) (nb' : isBrw b = false) (hn' : nst z = true) : PI X tg (.Call (.Name x p1) [y, z] [] p2) (tI G gx cl W (.rng2 a b)) := by
  cases eq_of_beq hx
  refine PI.weak (pi_range2 (ok.gls hg).1 (ok.gl.bl _ hb (by decide)) (pa_cons ha (pa_cons hb' pa_nil (star_cons hn')) (star_cons hn)) (by rw [star_cons hn, star_cons hn']; rfl) (star_cons hn')) fun σ H R ⟨ow, s, SR, h⟩ => ?_
  unfold evI at h
  refine ⟨ow, s, SR, h.step fun x s1 ow1 H1 v e1 S1 r1 h1 => ⟨ow1, s1, S1, h1.step fun y s2 ow2 H2 w e2 S2 r2 h2 => ?_⟩⟩
  have rr := r1.rep nb
  have rr' := r2.rep nb'
  split at h2
  · cases rr
    cases rr'
    split at h2
    · rename_i hf
      rw [Bool.and_eq_true] at hf
      exact ⟨_, _, rfl, ⟨(far_p hf.1).1, (far_p hf.1).2, (far_p hf.2).1, (far_p hf.2).2⟩, Po.fin h2 S2 it_rng⟩
    · exact h2.elim
  · exact h2.elim

/-! ### comprehensions -/
theorem wipeR_some {r : Rho} {i : Nat} {sv : SV} : ∀ {vs : List Nat}, (wipeR r vs)[i]? = some (some sv) → r[i]? = some (some sv) ∧ i ∉ vs
  | [], h => ⟨h, by simp⟩
  | v :: vs, h => by
    unfold wipeR at h
    by_cases q : i = v
    · subst q
      rw [List.getElem?_set, if_pos rfl] at h
      split at h <;> cases h
    · rw [List.getElem?_set_ne (Ne.symm q)] at h
      obtain ⟨h1, h2⟩ := wipeR_some h
      exact ⟨h1, by simp [q, h2]⟩
theorem SRel.wipe (SR : SRel G ow H s σ) (vs : List Nat) : SRel G ow H ⟨wipeR s.r vs, s.h⟩ (L2.wipe σ vs) := ⟨SR.hr, fun i sv h => by
  obtain ⟨h1, h2⟩ := wipeR_some h
  obtain ⟨x, k1, k2⟩ := SR.sl i sv h1
  exact ⟨x, by rw [wipe_out h2]; exact k1, k2⟩⟩
theorem SRel.less (SR : SRel G ow H s σ) (vs : List Nat) : SRel G ow H ⟨wipeR s.r vs, s.h⟩ σ := ⟨SR.hr, fun i sv h => SR.sl i sv (wipeR_some h).1⟩
theorem wipe_in {i : Nat} : ∀ {vs : List Nat}, i ∈ vs → (L2.wipe σ vs)[i]? = if i < σ.length then some none else none
  | [], h => by simp at h
  | v :: vs, h => by
    unfold L2.wipe
    by_cases q : i = v
    · subst q
      rw [List.getElem?_set, if_pos rfl, wipe_length]
    · rw [List.getElem?_set_ne (Ne.symm q)]
      exact wipe_in (by simpa [q] using h)
theorem wipe_eq {vs : List Nat} {σ1 σ2 : L2.St} (h : Only vs σ1 σ2) : L2.wipe σ2 vs = L2.wipe σ1 vs := by
  apply List.ext_getElem?
  intro i
  by_cases q : i ∈ vs
  · rw [wipe_in q, wipe_in q, h.len]
  · rw [wipe_out q, wipe_out q, h.off i q]
theorem only_wipe {vs : List Nat} : Only vs σ (L2.wipe σ vs) := ⟨wipe_length _ _, fun _ h => wipe_out h⟩
theorem backR_out {r0 r : Rho} {i : Nat} : ∀ {vs : List Nat}, i ∉ vs → (backR r0 r vs)[i]? = r[i]?
  | [], _ => rfl
  | v :: vs, h => by
    unfold backR
    rw [List.getElem?_set_ne (by rintro rfl; exact h (List.mem_cons_self ..))]
    exact backR_out fun z => h (List.mem_cons_of_mem _ z)
theorem backR_in {r0 r : Rho} {i : Nat} {sv : SV} : ∀ {vs : List Nat}, i ∈ vs → (backR r0 r vs)[i]? = some (some sv) → ∃ x, sv = .v x ∧ r0[i]? = some (some (.v x))
  | [], h, _ => by simp at h
  | v :: vs, h, e => by
    unfold backR at e
    by_cases q : i = v
    · subst q
      rw [List.getElem?_set, if_pos rfl] at e
      split at e
      · split at e
        · rename_i x hx
          cases e
          exact ⟨x, rfl, hx⟩
        · cases e
      · cases e
    · rw [List.getElem?_set_ne (Ne.symm q)] at e
      exact backR_in (by simpa [q] using h) e
theorem wipeR_out {r : Rho} {i : Nat} : ∀ {vs : List Nat}, i ∉ vs → (wipeR r vs)[i]? = r[i]?
  | [], _ => rfl
  | v :: vs, h => by
    unfold wipeR
    rw [List.getElem?_set_ne (by rintro rfl; exact h (List.mem_cons_self ..))]
    exact wipeR_out fun z => h (List.mem_cons_of_mem _ z)
/-- behind a comprehension -/
theorem SRel.back {s0 : S} {ow0 : Ow} {H0 : Hp} {vs : List Nat} (S0 : SRel G ow0 H0 s0 σ) (e : Ext ow0 H0 ow H) (SR : SRel G ow H ⟨wipeR s.r vs, s.h⟩ (L2.wipe σ vs)) : SRel G ow H ⟨backR s0.r s.r vs, s.h⟩ σ := ⟨SR.hr, fun i sv h => by
  by_cases q : i ∈ vs
  · obtain ⟨x, rfl, h1⟩ := backR_in q h
    obtain ⟨y, k1, k2⟩ := S0.sl i _ h1
    cases k2 with
    | v k2 => exact ⟨y, k1, .v (k2.ext e)⟩
  · rw [backR_out q] at h
    obtain ⟨y, k1, k2⟩ := SR.sl i sv (by rw [wipeR_out q]; exact h)
    exact ⟨y, by rw [wipe_out q] at k1; exact k1, k2⟩⟩
def WF : WX := fun _ _ _ _ => False
theorem loopL_cons (f : IV → S → R (List IV)) (x : IV) (xs : List IV) (s : S) : loopL f (x :: xs) s = (f x s).bind fun y s1 => (loopL f xs s1).bind fun ys s2 => .ok (y ++ ys) s2 := rfl
/-- what is left of a comprehension -/
def rest (f : IV → S → R (List IV)) (xs acc : List IV) (s : S) (k : List IV → S → R (List IV)) : R (List IV) := (noExc (loopL f xs s)).bind fun ys s5 => k (acc ++ ys) s5
theorem rest_cons {f : IV → S → R (List IV)} {x : IV} {xs acc : List IV} {s : S} {k : List IV → S → R (List IV)} : rest f (x :: xs) acc s k = (noExc (f x s)).bind fun y s1 => rest f xs (acc ++ y) s1 k := by
  unfold rest
  rw [loopL_cons]
  cases f x s with
  | ok y s1 =>
    show (noExc ((loopL f xs s1).bind _)).bind _ = (noExc (loopL f xs s1)).bind _
    cases loopL f xs s1 with
    | ok ys s2 => show k (acc ++ (y ++ ys)) s2 = k (acc ++ y ++ ys) s2; rw [List.append_assoc]
    | exc e s2 => rfl
    | bad => rfl
  | exc e s1 => rfl
  | bad => rfl
/-- the length at the end -/
theorem rest_len {f : IV → S → R (List IV)} {xs acc : List IV} {s : S} {k : List IV → S → R (List IV)} {α : Type} {vr : Ow → Hp → List IV → α → Prop} {Q : α → Hp → Prop} (hk : ∀ ys s5, lineOk ys.length = false → k ys s5 = .bad) (h : Po G gx W σ vr Q ow H (rest f xs acc s k)) : acc.length ≤ sizeLine := by
  unfold rest at h
  cases e : loopL f xs s with
  | ok ys s5 =>
    rw [e] at h
    have h : Po G gx W σ vr Q ow H (k (acc ++ ys) s5) := h
    cases hz : lineOk (acc ++ ys).length with
    | true =>
      have := lineOk_le hz
      rw [List.length_append] at this
      omega
    | false => rw [hk _ _ hz] at h; exact h.elim
  | exc x s5 => rw [e] at h; exact h.elim
  | bad => rw [e] at h; exact h.elim
theorem Po.noExc_step {α β γ δ : Type} {vr : Ow → Hp → γ → δ → Prop} {Q : δ → Hp → Prop} {r : R α} {f : α → S → R γ} {ow1 : Ow} {H1 : Hp} {W' : WX} {σ' : L2.St} (h : Po G gx W σ vr Q ow H ((noExc r).bind f))
    {vr1 : Ow → Hp → α → β → Prop} {Q1 : β → Hp → Prop}
    (k : ∀ a s ow2 H2 b, Ext ow1 H1 ow2 H2 → SRel G ow2 H2 s σ' → vr1 ow2 H2 a b → Po G gx W σ vr Q ow H (f a s) → Q1 b H2) : Po G gx W' σ' vr1 Q1 ow1 H1 r := by
  cases r with
  | ok a s => exact fun ow2 H2 b e2 S2 r2 => k a s ow2 H2 b e2 S2 r2 h
  | exc x s => exact h.elim
  | bad => exact h.elim
theorem noExc_bind {α β : Type} (r : R α) (f : α → S → R β) : noExc (r.bind f) = (noExc r).bind fun a s => noExc (f a s) := by cases r <;> rfl
theorem lc_reads {own : List (Str × Nat)} {tg : TG} {it : CI} {ifs : CT} {elt : CE} {N : Nat} {Q : VK} (htg : ∀ j ∈ tgN tg, j ∈ own.map (·.2)) (nb : isBrw elt = false) (hlen : σ.length = N) (hw : tF G gx cl W (.lc own tg it ifs elt) σ H Q) :
    tLc (tI G gx cl W it) (g1 G N tg) (tT G gx cl WF ifs) (tE G gx cl WF elt) (own.map (·.2)) σ H Q := by
  obtain ⟨ow, s, SR, h⟩ := hw
  unfold evF at h
  refine ⟨ow, s, SR, h.step fun xs s1 ow1 H1 J e1 S1 r1 h1 => fun D hD => ?_⟩
  generalize hf : (fun (x : IV) (s2 : S) => match asgT tg [x] (wipeR s2.r (own.map (·.2))) with
      | some r => (evT cl ifs ⟨r, s2.h⟩).bind fun k s3 => if k then (evE cl elt s3).bind fun y s4 => R.ok [y] s4 else .ok [] s3
      | none => .bad) = f at h1
  generalize hk : (fun (ys : List IV) (s5 : S) => if lineOk ys.length then R.ok ys ⟨backR s1.r s5.r (own.map (·.2)), s5.h⟩ else .bad) = k at h1
  have hkl : ∀ ys s5, lineOk ys.length = false → k ys s5 = .bad := fun ys s5 hz => by
    rw [← hk]
    show (if lineOk ys.length = true then _ else _) = _
    rw [hz]; rfl
  have hfx : ∀ x s2, f x s2 = match asgT tg [x] (wipeR s2.r (own.map (·.2))) with
      | some r => (evT cl ifs ⟨r, s2.h⟩).bind fun k s3 => if k then (evE cl elt s3).bind fun y s4 => R.ok [y] s4 else .ok [] s3
      | none => .bad := fun x s2 => by rw [← hf]
  have h2 : Po G gx W σ (vrF G) Q ow1 H1 (rest f xs [] ⟨wipeR s1.r (own.map (·.2)), s1.h⟩ k) := h1
  clear h1
  obtain ⟨eD, SD⟩ := new_nw (u := .lst []) (o := .fo) (S1.wipe (own.map (·.2))) hD (by intro n z; cases z)
  refine ⟨fun j m H => m + j = xs.length ∧ ∃ ow s acc accI, Ext ow1 H1 ow H ∧ SRel G ow H ⟨wipeR s.r (own.map (·.2)), s.h⟩ (L2.wipe σ (own.map (·.2))) ∧ ow D = some .fo ∧ H D = some (.lst acc) ∧ RepVs G ow H accI acc ∧ Po G gx W σ (vrF G) Q ow1 H1 (rest f (xs.drop j) accI s k),
    ⟨xs.length, rfl, _, _, [], [], eD, SD.less _, owUp_same, upd_same, .nil, h2⟩, fun j m H2 ⟨hm, ow2, s2, acc, accI, e2, S2, oD, hD2, ra, h3⟩ => ?_⟩
  have ij := r1 j ow2 H2 e2
  cases hx : xs[j]? with
  | none =>
    refine .inl ⟨ij.1 hx, ?_⟩
    have hj : xs.length ≤ j := List.getElem?_eq_none_iff.mp hx
    rw [List.drop_eq_nil_of_le hj] at h3
    have h4 : Po G gx W σ (vrF G) Q ow1 H1 (k accI s2) := by
      have : k accI s2 = rest f [] accI s2 k := by
        show _ = k (accI ++ []) s2
        rw [List.append_nil]
      rw [this]; exact h3
    cases hz : lineOk accI.length with
    | false => rw [hkl _ _ hz] at h4; exact h4.elim
    | true =>
      have h5 : Po G gx W σ (vrF G) Q ow1 H1 (.ok accI ⟨backR s1.r s2.r (own.map (·.2)), s2.h⟩) := by
        rw [← hk] at h4
        have h4 : Po G gx W σ (vrF G) Q ow1 H1 (if lineOk accI.length = true then R.ok accI ⟨backR s1.r s2.r (own.map (·.2)), s2.h⟩ else .bad) := h4
        rw [hz] at h4
        exact h4
      have S3 := S1.back e2 S2
      have S4 := turn_srel (q := some .nw) S3 oD (by intro n z; cases z) (by intro n z; cases z) (by intro n z; cases z)
      have e0 := turn_ext0 (H := H2) (q := some .nw) oD (by intro n z; cases z)
      have nD := S1.hr.fresh hD
      have e4 : Ext ow1 H1 (owUp ow2 D (some .nw)) H2 := by
        refine ⟨fun b w hb nn => ?_, fun b hb => ?_, fun b nn hb => ?_⟩
        · have q : b ≠ D := by rintro rfl; rw [hD] at hb; cases hb
          rw [owUp_ne q]; exact e2.keep b w hb nn
        · have q : b ≠ D := by rintro rfl; rw [nD] at hb; cases hb
          rw [owUp_ne q]; exact e2.fo b hb
        · have q : b ≠ D := by rintro rfl; rw [nD] at hb; cases hb
          rw [owUp_ne q]; exact e2.hp b nn hb
      exact h5.fin' e4 S4 ⟨D, acc, rfl, hD2, owUp_same, ra.ext0 e0⟩
  | some y =>
    have hlt := (List.getElem?_eq_some_iff.mp hx).1
    obtain ⟨go, yl⟩ := ij.2 y hx
    have hdrop : xs.drop j = y :: xs.drop (j + 1) := by
      rw [List.drop_eq_getElem_cons hlt, (List.getElem?_eq_some_iff.mp hx).2]
    rw [hdrop, rest_cons] at h3
    refine .inr ⟨go, fun H' => ∃ ow s acc accI, Ext ow1 H1 ow H' ∧ SRel G ow H' ⟨wipeR s.r (own.map (·.2)), s.h⟩ (L2.wipe σ (own.map (·.2))) ∧ ow D = some .fo ∧ H' D = some (.lst acc) ∧ RepVs G ow H' accI acc ∧ Po G gx W σ (vrF G) Q ow1 H1 (rest f (xs.drop (j + 1)) accI s k), fun H' hN => ⟨xs.length - (j + 1), by omega, by omega, hN⟩, fun v H3 hy => ?_⟩
    obtain ⟨gr, rv⟩ := yl v H3 hy
    have e3 := gr.ext S2.hr
    have S3 := gr.srel S2
    have rv := rv fun p hp => S2.hr.fresh hp
    have hD3 : H3 D = some (.lst acc) := by rw [(e3.fo D oD).2]; exact hD2
    have ra3 := ra.ext e3
    rw [hfx] at h3
    cases ha : asgT tg [y] (wipeR s2.r (own.map (·.2))) with
    | none => rw [ha] at h3; exact h3.elim
    | some r' =>
      rw [ha] at h3
      have hwl : (L2.wipe σ (own.map (·.2))).length = N := by rw [wipe_length]; exact hlen
      refine ⟨ow2, _, y, r', S3, hwl, rv, ha, fun σ2 o2 S4 => ?_⟩
      have hw2 : L2.wipe σ2 (own.map (·.2)) = L2.wipe σ (own.map (·.2)) := by
        rw [wipe_eq (o2.mono htg)]
        exact wipe_eq only_wipe
      refine ⟨hw2, ow2, _, S4, ?_⟩
      rw [noExc_bind, bind_assoc] at h3
      refine h3.noExc_step fun b s4 ow4 H4 b' e4 S5 hb' h5 => ?_
      cases hb'
      have hD4 : H4 D = some (.lst acc) := by rw [(e4.fo D oD).2]; exact hD3
      have oD4 := (e4.fo D oD).1
      have ra4 := ra3.ext e4
      have e24 := (e2.trans e3).trans e4
      have back : ∀ {ow : Ow} {H : Hp} {s : S}, SRel G ow H s σ2 → SRel G ow H ⟨wipeR s.r (own.map (·.2)), s.h⟩ (L2.wipe σ (own.map (·.2))) := fun S => by
        rw [← hw2]; exact S.wipe _
      cases b with
      | false =>
        have h5 : Po G gx W σ (vrF G) Q ow1 H1 (rest f (xs.drop (j + 1)) (accI ++ []) s4 k) := h5
        rw [List.append_nil] at h5
        exact ⟨ow4, _, acc, accI, e24, back S5, oD4, hD4, ra4, h5⟩
      | true =>
        refine ⟨ow4, s4, S5, ?_⟩
        have h5 : Po G gx W σ (vrF G) Q ow1 H1 ((noExc ((evE cl elt s4).bind fun y s5 => R.ok [y] s5)).bind fun y s1 => rest f (xs.drop (j + 1)) (accI ++ y) s1 k) := h5
        rw [noExc_bind, bind_assoc] at h5
        refine h5.noExc_step fun y s5 ow5 H5 w e5 S6 ry h6 => ?_
        have hD5 : H5 D = some (.lst acc) := by rw [(e5.fo D oD4).2]; exact hD4
        have oD5 := (e5.fo D oD4).1
        have h6 : Po G gx W σ (vrF G) Q ow1 H1 (rest f (xs.drop (j + 1)) (accI ++ [y]) s5 k) := h6
        have hl := rest_len hkl h6
        have ra5 := (ra4.ext e5).append (.cons (ry.rep nb) .nil)
        have hacc : (accI ++ [y]).length = acc.length + 1 := by rw [ra5.length, List.length_append, List.length_singleton]
        have e0 : Ext0 ow5 H5 ow5 (upd H5 D (.lst (acc ++ [w]))) := ext0_at oD5 _
        have nD := S1.hr.fresh hD
        have e15 := e24.trans e5
        refine ⟨acc, hD5, by omega, ow5, s5, acc ++ [w], accI ++ [y], ?_, ?_, oD5, upd_same, ra5.ext0 e0, h6⟩
        · refine ⟨fun b u hb nn => ?_, fun b hb => ?_, fun b nn hb => e15.hp b nn hb⟩
          · have q : b ≠ D := by rintro rfl; rw [hD] at hb; cases hb
            rw [upd_ne q]; exact e15.keep b u hb nn
          · have q : b ≠ D := by rintro rfl; rw [nD] at hb; cases hb
            rw [upd_ne q]; exact e15.fo b hb
        · have S7 := back S6
          refine ⟨S7.hr.turn e0 (a := D) (by rw [oD5]; intro n z; cases z) (by rw [oD5]; intro n z; cases z) (fun b hb => ⟨rfl, upd_ne hb⟩) ⟨_, upd_same⟩, fun i sv hi => ?_⟩
          obtain ⟨y, k1, k2⟩ := S7.sl i sv hi
          exact ⟨y, k1, k2.ext0 e0 fun b hb => ⟨hb, upd_ne (by rintro rfl; rw [oD5] at hb; cases hb)⟩⟩
theorem f_lc {own : List (Str × Nat)} {tg : TG} {it : CI} {ifs : CT} {elt : CE} {x t i : Expr} {fs : List Expr} {scope : Scope} {p : Pos} (ok : XOk G gx cl n c X W) (hb : blkC c.N c.sc scope own = true) (htg : ∀ j ∈ tgN tg, j ∈ own.map (·.2))
    (hs : isSet i = false) (nb : isBrw elt = false) (hi : PI X t i (tI G gx cl W it))
    (hg : ∀ (s : Shared) (H : Hp) (C : Addr) (k : List (Str × Addr)) (fp : List Addr), PG (X.blk s H scope (compEnvC scope k C X.env) fp) t (g1 G X.N.length tg))
    (ht : ∀ (s : Shared) (H : Hp) (C : Addr) (k : List (Str × Addr)) (fp : List Addr), PTs (X.blk s H scope (compEnvC scope k C X.env) fp) fs (tT G gx cl WF ifs))
    (he : ∀ (s : Shared) (H : Hp) (C : Addr) (k : List (Str × Addr)) (fp : List Addr), PE (X.blk s H scope (compEnvC scope k C X.env) fp) x (tE G gx cl WF elt)) :
    PE X (.ListComp x [⟨t, i, fs, 0⟩] scope p) (tF G gx cl W (.lc own tg it ifs elt)) := by
  have hbo : BlkOk X.N X.env.scope scope own := by rw [ok.hN, ok.hS]; exact blkOk_by hb
  refine ⟨fun pins st σ H Q I hw => (pe_lc (pos := p) ok.cm ok.nd hi hbo hg ht he (by intro v; cases i <;> first | rfl | cases hs)).run pins st σ H Q I (lc_reads htg nb I.len hw)⟩
end
end Mi

/-! Mi: every checked expression is served -/
namespace Mi
open PySem L2 PyProof.Rows

section
variable {G : Gd} {gx : Gx} {cl : Nat → List IV → Sto → Rc} {n : Nat}
theorem XOk.blk {c : Ck} {X : Cx} {W : WX} (ok : XOk G gx cl n c X W) (s : Shared) (H : Hp) (scope : Scope) (C : Addr) (k : List (Str × Addr)) (fp : List Addr) : XOk G gx cl n (blkCk c scope) (X.blk s H scope (compEnvC scope k C X.env) fp) WF where
  hK := ok.hK
  nd := ok.nd
  cm := ok.cm
  rm := ok.rm
  gd := ok.gd
  ps := fun σ pins H s e s' I ⟨_, _, _, _, _, _, _, _, _, _, _, _, hE⟩ => hE.elim
  hN := ok.hN
  hS := by
    show relS scope X.env.scope = relS scope c.sc
    rw [ok.hS]
  cf := fun x h => h
  gl := ok.gl
theorem pw_bool {X : Cx} {op : BoolOp} {es : List Expr} {p : Pos} {t : TT} (h : PT X (.BoolOp op es p) t) : PW X (.BoolOp op es p) t := ⟨fun wh pins s σ H Q I hw => by
  have := h.run pins s σ H Q I hw
  rw [arm_isTrue_BoolOp] at this ⊢
  exact this⟩
theorem t_val {c : Ck} {X : Cx} {W : WX} {a : CE} {x : Expr} (ok : XOk G gx cl n c X W) (ha : PE X x (tE G gx cl W a)) (hp : ∀ whole, PySem.isTrue x X.env whole = (do let v ← whole; standAt x.pos; holding [v] (truthy v))) : PT X x (tT G gx cl W (.val a)) :=
  PT.weak (pt_truth ha hp) fun σ H Q ⟨ow, s, SR, h⟩ => by
    unfold evT at h
    refine ⟨ow, s, SR, h.step fun v s1 ow1 H1 w e1 S1 r1 h1 => ?_⟩
    split at h1
    · rename_i v' ev
      cases hk : iTruth v' with
      | none => rw [hk] at h1; exact h1.elim
      | some k =>
        rw [hk] at h1
        exact ⟨k, tru_rep ok.hK (late_rep S1 r1 ev) hk, Po.fin (b := k) h1 S1 rfl⟩
    · exact h1.elim
theorem t_chn {c : Ck} {X : Cx} {W : WX} {o1 o2 : COp} {a b d : CE} {x y z : Expr} {p : Pos} (ok : XOk G gx cl n c X W) (ha : PE X x (tE G gx cl W a)) (hb : PE X y (tE G gx cl W b)) (hd : PE X z (tE G gx cl W d))
    (na : isBrw a = false) (nb : isBrw b = false) (nd : isBrw d = false) (hs : isSet z = false) : PT X (.Compare x [cOp o1, cOp o2] [y, z] p) (tT G gx cl W (.val (.chn o1 o2 a b d))) :=
  PT.weak (pt_chain (op_cmp o1 ok.hK ok.u65) (op_cmp o2 ok.hK ok.u65) ha hb hd (by cases z <;> first | rfl | cases hs)) fun σ H Q ⟨ow, s, SR, h⟩ => by
    unfold evT evE at h
    rw [bind_assoc] at h
    refine ⟨ow, s, SR, h.step fun x s1 ow1 H1 v e1 S1 r1 h1 => ⟨ow1, s1, S1, ?_⟩⟩
    rw [bind_assoc] at h1
    refine h1.step fun y s2 ow2 H2 w e2 S2 r2 h2 => ?_
    cases hk : iCmp o1 x y with
    | none => rw [hk] at h2; exact h2.elim
    | some k =>
      rw [hk] at h2
      refine ⟨ow2, x, y, k, .of ((r1.rep na).ext e2), .of (r2.rep nb), hk, k, rfl, ?_⟩
      cases k with
      | false => exact ⟨false, rfl, Po.fin (b := false) h2 S2 rfl⟩
      | true =>
        have h2 : Po G gx W σ (fun _ _ a b => a = b) Q ow2 H2 (((evE cl d s2).bind fun z s3 => match iCmp o2 y z with
          | some k => R.ok (IV.bl k) s3
          | none => .bad).bind fun x s1 => match late (.chn o1 o2 a b d) x s1 with
          | some x' => ofO (iTruth x') s1
          | none => .bad) := h2
        rw [bind_assoc] at h2
        refine ⟨ow2, s2, S2, h2.step fun z s3 ow3 H3 u e3 S3 r3 h3 => ?_⟩
        cases hj : iCmp o2 y z with
        | none => rw [hj] at h3; exact h3.elim
        | some j =>
          rw [hj] at h3
          exact ⟨ow3, y, z, j, .of ((r2.rep nb).ext e3), .of (r3.rep nd), hj, j, rfl, Po.fin (b := j) h3 S3 rfl⟩
theorem t_yes {X : Cx} {W : WX} : PTs X [] (tT G gx cl W .yes) := ⟨fun pins s σ H Q I ⟨ow, st, SR, h⟩ => pts_nil.run pins s σ H Q I (by
  unfold evT at h
  exact Po.fin (b := true) h SR rfl)⟩
theorem chkE_nset {c : Ck} {a : CE} {e : Expr} (h : chkE c a e = true) : True := trivial

mutual
theorem soE : ∀ (a : CE) {c : Ck} {X : Cx} {W : WX} (ok : XOk G gx cl n c X W) {e : Expr}, chkE c a e = true → PE X e (tE G gx cl W a)
  | .var i, c, X, W, ok, e, h => by
    cases e with
    | Name x p => unfold chkE at h; exact e_var ok h
    | _ => simp [chkE] at h
  | .brw i, c, X, W, ok, e, h => by
    cases e with
    | Name x p => unfold chkE at h; exact e_brw ok h
    | _ => simp [chkE] at h
  | .cst v, c, X, W, ok, e, h => by
    cases e with
    | Constant k j p => unfold chkE at h; exact e_cst h
    | _ => simp [chkE] at h
  | .glb y v, c, X, W, ok, e, h => by
    cases e with
    | Name x p =>
      unfold chkE at h
      simp only [Bool.and_eq_true] at h
      cases hl : c.gt.val.lookup x with
      | none => rw [hl] at h; exact absurd h.2 (by simp)
      | some w => rw [hl] at h; exact e_glb ok h.1.2 hl h.2
    | _ => simp [chkE] at h
  | .bin op a b, c, X, W, ok, e, h => by
    cases e with
    | BinOp x o y p =>
      unfold chkE at h
      simp only [Bool.and_eq_true] at h
      cases eq_of_beq h.1.1
      exact e_bin ok (soE a ok h.1.2) (soE b ok h.2)
    | _ => simp [chkE] at h
  | .neg a, c, X, W, ok, e, h => by
    cases e with
    | UnaryOp o x p =>
      cases o with
      | USub =>
        unfold chkE at h
        simp only [Bool.and_eq_true, Bool.not_eq_true'] at h
        exact e_neg (soE a ok h.1) h.2
      | _ => simp [chkE] at h
    | _ => simp [chkE] at h
  | .notV a, c, X, W, ok, e, h => by
    cases e with
    | UnaryOp o x p =>
      cases o with
      | Not =>
        unfold chkE at h
        exact e_not ok (soE a ok h)
      | _ => simp [chkE] at h
    | _ => simp [chkE] at h
  | .cmp op a b, c, X, W, ok, e, h => by
    cases e with
    | Compare x os ys p =>
      match os, ys, h with
      | [o], [y], h =>
        unfold chkE at h
        simp only [Bool.and_eq_true, Bool.not_eq_true'] at h
        cases eq_of_beq h.1.1.1
        exact e_cmp ok (soE a ok h.1.1.2) (soE b ok h.1.2) h.2
      | [], _, h => simp [chkE] at h
      | _ :: _ :: _, _, h => simp [chkE] at h
      | [_], [], h => simp [chkE] at h
      | [_], _ :: _ :: _, h => simp [chkE] at h
    | _ => simp [chkE] at h
  | .chn o1 o2 a b d, c, X, W, ok, e, h => by
    cases e with
    | Compare x os ys p =>
      match os, ys, h with
      | [q1, q2], [y, z], h =>
        unfold chkE at h
        simp only [Bool.and_eq_true, Bool.not_eq_true'] at h
        obtain ⟨⟨⟨⟨⟨⟨⟨⟨h1, h2⟩, h3⟩, h4⟩, h5⟩, h6⟩, h7⟩, h8⟩, h9⟩ := h
        cases eq_of_beq h1
        cases eq_of_beq h2
        exact e_chn ok (soE a ok h3) (soE b ok h4) (soE d ok h5) h6 h7 h8 h9
      | [], _, h => simp [chkE] at h
      | [_], _, h => simp [chkE] at h
      | _ :: _ :: _ :: _, _, h => simp [chkE] at h
      | [_, _], [], h => simp [chkE] at h
      | [_, _], [_], h => simp [chkE] at h
      | [_, _], _ :: _ :: _ :: _, h => simp [chkE] at h
    | _ => simp [chkE] at h
  | .andV a b, c, X, W, ok, e, h => by
    cases e with
    | BoolOp o xs p =>
      match o, xs, h with
      | .And, x :: y :: [], h =>
        unfold chkE at h
        simp only [Bool.and_eq_true, Bool.not_eq_true'] at h
        exact e_and ok (soE a ok h.1.1.1) (pe_one (soE b ok h.2)) h.1.1.2 h.1.2
      | .And, x :: y :: z :: r, h =>
        unfold chkE at h
        simp only [Bool.and_eq_true, Bool.not_eq_true'] at h
        exact e_and ok (soE a ok h.1.1.1) (soE b ok h.2) h.1.1.2 h.1.2
      | .And, [], h => simp [chkE] at h
      | .And, [_], h => simp [chkE] at h
      | .Or, _, h => simp [chkE] at h
    | _ => simp [chkE] at h
  | .orV a b, c, X, W, ok, e, h => by
    cases e with
    | BoolOp o xs p =>
      match o, xs, h with
      | .Or, x :: y :: [], h =>
        unfold chkE at h
        simp only [Bool.and_eq_true, Bool.not_eq_true'] at h
        exact e_or ok (soE a ok h.1.1.1) (pe_one (soE b ok h.2)) h.1.1.2 h.1.2
      | .Or, x :: y :: z :: r, h =>
        unfold chkE at h
        simp only [Bool.and_eq_true, Bool.not_eq_true'] at h
        exact e_or ok (soE a ok h.1.1.1) (soE b ok h.2) h.1.1.2 h.1.2
      | .Or, [], h => simp [chkE] at h
      | .Or, [_], h => simp [chkE] at h
      | .And, _, h => simp [chkE] at h
    | _ => simp [chkE] at h
  | .ife t a b, c, X, W, ok, e, h => by
    cases e with
    | IfExp z x y p =>
      unfold chkE at h
      simp only [Bool.and_eq_true, Bool.not_eq_true'] at h
      exact e_ife (soT t ok h.1.1.1.1) (soE a ok h.1.1.1.2) (soE b ok h.1.1.2) h.1.2 h.2
    | _ => simp [chkE] at h
  | .tup es, c, X, W, ok, e, h => by
    cases e with
    | Tuple xs k p =>
      unfold chkE at h
      simp only [Bool.and_eq_true] at h
      exact e_tup (soL es ok h.1) h.2
    | _ => simp [chkE] at h
  | .idx a b, c, X, W, ok, e, h => by
    cases e with
    | Subscript x y p =>
      unfold chkE at h
      simp only [Bool.and_eq_true, Bool.not_eq_true'] at h
      exact e_idx ok (soE a ok h.1.1.1) (soE b ok h.1.1.2) h.1.2 h.2
    | _ => simp [chkE] at h
  | .sli a lo hi, c, X, W, ok, e, h => by
    cases e with
    | Subscript x y p =>
      cases y with
      | Slice l u st q =>
        cases st with
        | none =>
          unfold chkE at h
          simp only [Bool.and_eq_true, Bool.not_eq_true'] at h
          obtain ⟨⟨⟨⟨h1, h2⟩, h3⟩, h4⟩, h5⟩ := h
          refine e_sli ok (soE a ok h1) ?_ ?_
          · cases l with
            | none => exact o_none h4
            | some l =>
              simp only [Bool.and_eq_true, Bool.not_eq_true'] at h4
              exact o_some h4.2 h2 (soE lo ok h4.1)
          · cases u with
            | none => exact o_none h5
            | some l =>
              simp only [Bool.and_eq_true, Bool.not_eq_true'] at h5
              exact o_some h5.2 h3 (soE hi ok h5.1)
        | some _ => simp [chkE] at h
      | _ => simp [chkE] at h
    | _ => simp [chkE] at h
  | .rev a, c, X, W, ok, e, h => by
    unfold chkE at h
    split at h <;> first
      | (cases h; done)
      | (rename_i heq; cases heq)
    all_goals first
      | (simp only [Bool.and_eq_true] at h
         exact e_rev ok (soE a ok h.1) h.2)
      | skip
  | .call y f es, c, X, W, ok, e, h => by
    cases e with
    | Call fn xs ks p =>
      cases fn with
      | Name x q =>
        cases ks with
        | nil =>
          unfold chkE at h
          simp only [Bool.and_eq_true, beq_iff_eq] at h
          exact e_call ok h.1.1.1.1.2 h.1.1.1.2 (soL es ok h.1.1.2) h.1.1.2 h.1.2 h.2
        | cons _ _ => simp [chkE] at h
      | _ => simp [chkE] at h
    | _ => simp [chkE] at h
  | .blt b es, c, X, W, ok, e, h => by
    cases e with
    | Call fn xs ks p =>
      cases fn with
      | Name x q =>
        cases ks with
        | nil =>
          cases xs with
          | nil => simp [chkE] at h
          | cons z zs =>
            unfold chkE at h
            simp only [Bool.and_eq_true] at h
            exact e_blt ok h.1.1.1 h.1.1.2 h.1.2 (soL es ok h.2) h.2
        | cons _ _ => simp [chkE] at h
      | _ => simp [chkE] at h
    | _ => simp [chkE] at h
  | .isi a ts, c, X, W, ok, e, h => by
    unfold chkE at h
    split at h <;> first
      | (cases h; done)
      | (rename_i heq; cases heq)
    all_goals first
      | (simp only [Bool.and_eq_true, Bool.not_eq_true'] at h
         obtain ⟨⟨⟨⟨⟨⟨⟨⟨⟨h1, h2⟩, h3⟩, h4⟩, h5⟩, h6⟩, h7⟩, h8⟩, h9⟩, h10⟩ := h
         exact e_isi ok h1 h2 h3 (soE a ok h4) h5 h6 h7 h8 h9 h10)
      | skip
  | .dnil, c, X, W, ok, e, h => by
    unfold chkE at h
    split at h <;> first
      | (cases h; done)
      | (rename_i heq; cases heq)
      | skip
    all_goals first
      | exact e_dnil
      | skip
  | .fr m f, c, X, W, ok, e, h => by
    have h' : chkF c f e = true := by cases e <;> (unfold chkE at h; exact h)
    exact e_fr (soF f ok h')
  | .app o e', c, X, W, ok, e, h => by
    unfold chkE at h
    split at h <;> first
      | (cases h; done)
      | (rename_i heq; cases heq)
    all_goals first
      | (simp only [Bool.and_eq_true, Bool.not_eq_true'] at h
         obtain ⟨⟨⟨⟨⟨⟨h1, h2⟩, h3⟩, h4⟩, h5⟩, h6⟩, h7⟩ := h
         exact e_app h1 h2 h3 (soE o ok h4) (soE e' ok h5) h6 h7)
      | skip
  | .ext o e', c, X, W, ok, e, h => by
    unfold chkE at h
    split at h <;> first
      | (cases h; done)
      | (rename_i heq; cases heq)
    all_goals first
      | (simp only [Bool.and_eq_true, Bool.not_eq_true'] at h
         obtain ⟨⟨⟨⟨⟨h1, h2⟩, h3⟩, h4⟩, h5⟩, h6⟩ := h
         exact e_ext h1 h2 h3 (soE o ok h4) (soE e' ok h5) h6)
      | skip
  | .pop o, c, X, W, ok, e, h => by
    unfold chkE at h
    split at h <;> first
      | (cases h; done)
      | (rename_i heq; cases heq)
    all_goals first
      | (simp only [Bool.and_eq_true, Bool.not_eq_true'] at h
         obtain ⟨⟨⟨h1, h2⟩, h3⟩, h4⟩ := h
         exact e_pop h1 h2 h3 (soE o ok h4))
      | skip
theorem soF : ∀ (f : CF) {c : Ck} {X : Cx} {W : WX} (ok : XOk G gx cl n c X W) {e : Expr}, chkF c f e = true → PE X e (tF G gx cl W f)
  | .dsp es, c, X, W, ok, e, h => by
    cases e with
    | List xs p =>
      unfold chkF at h
      simp only [Bool.and_eq_true] at h
      exact f_dsp (soL es ok h.1) h.2
    | _ => simp [chkF] at h
  | .lc own tg it ifs elt, c, X, W, ok, e, h => by
    unfold chkF at h
    split at h <;> first
      | (cases h; done)
      | (rename_i heq; cases heq)
    all_goals first
      | (simp only [Bool.and_eq_true, Bool.not_eq_true'] at h
         obtain ⟨⟨⟨⟨⟨⟨⟨⟨h1, h2⟩, h3⟩, h4⟩, h5⟩, h6⟩, h7⟩, h8⟩, h9⟩ := h
         refine f_lc ok h1 (fun j hj => ?_) h6 h9 (soI it ok h5) (fun s H C k fp => pg_of (ok.blk s H _ C k fp) h2 h4) (fun s H C k fp => ?_) (fun s H C k fp => soE elt (ok.blk s H _ C k fp) h8)
         · have := List.all_eq_true.mp h3 j hj
           exact List.contains_iff_mem.mp this
         · split at h7
           · have e : ifs = .yes := by
               unfold isYes at h7
               split at h7
               · rfl
               · cases h7
             rw [e]
             exact t_yes
           · exact pts_one (soT ifs (ok.blk s H _ C k fp) h7)
           · cases h7)
      | skip
  | .lc2 own tg it ifs own1 tg1 it1 ifs1 elt, c, X, W, ok, e, h => by
    cases e <;> simp [chkF] at h
  | .lof a, c, X, W, ok, e, h => by
    unfold chkF at h
    split at h <;> first
      | (cases h; done)
      | (rename_i heq; cases heq)
    all_goals first
      | (simp only [Bool.and_eq_true, Bool.not_eq_true'] at h
         obtain ⟨⟨⟨⟨h1, h2⟩, h3⟩, h4⟩, h5⟩ := h
         exact f_lof ok h1 h2 h3 (soE a ok h4) h5)
      | skip
  | .rep a b, c, X, W, ok, e, h => by
    unfold chkF at h
    split at h <;> first
      | (cases h; done)
      | (rename_i heq; cases heq)
    all_goals first
      | (simp only [Bool.and_eq_true, Bool.not_eq_true'] at h
         exact f_rep ok (soE a ok h.1) (soE b ok h.2))
      | skip
  | .cat a b, c, X, W, ok, e, h => by
    unfold chkF at h
    split at h <;> first
      | (cases h; done)
      | (rename_i heq; cases heq)
    all_goals first
      | (simp only [Bool.and_eq_true, Bool.not_eq_true'] at h
         exact f_cat ok (soE a ok h.1) (soE b ok h.2))
      | skip
  | .sli a lo hi, c, X, W, ok, e, h => by
    unfold chkF at h
    split at h <;> first
      | (cases h; done)
      | (rename_i heq; cases heq)
    all_goals first
      | (simp only [Bool.and_eq_true, Bool.not_eq_true'] at h
         obtain ⟨⟨⟨⟨h1, h2⟩, h3⟩, h4⟩, h5⟩ := h
         refine f_sli ok (soE a ok h1) ?_ ?_
         · split at h4
           · exact o_none h4
           · simp only [Bool.and_eq_true, Bool.not_eq_true'] at h4
             exact o_some h4.2 h2 (soE lo ok h4.1)
         · split at h5
           · exact o_none h5
           · simp only [Bool.and_eq_true, Bool.not_eq_true'] at h5
             exact o_some h5.2 h3 (soE hi ok h5.1))
      | skip
theorem soL : ∀ (l : CL) {c : Ck} {X : Cx} {W : WX} (ok : XOk G gx cl n c X W) {es : List Expr}, chkL c l es = true → PA X es (tL G gx cl W l)
  | .nil, c, X, W, ok, [], h => l_nil
  | .cons a l, c, X, W, ok, x :: xs, h => by
    unfold chkL at h
    simp only [Bool.and_eq_true] at h
    exact l_cons (soE a ok h.1.1) (soL l ok h.2) h.1.2
  | .nil, c, X, W, ok, _ :: _, h => by simp [chkL] at h
  | .cons _ _, c, X, W, ok, [], h => by simp [chkL] at h
theorem soT : ∀ (t : CT) {c : Ck} {X : Cx} {W : WX} (ok : XOk G gx cl n c X W) {e : Expr}, chkT c t e = true → PT X e (tT G gx cl W t)
  | .yes, c, X, W, ok, e, h => by cases e <;> simp [chkT] at h
  | .not t, c, X, W, ok, e, h => by
    cases e with
    | UnaryOp o x p =>
      cases o with
      | Not =>
        unfold chkT at h
        refine PT.weak (pt_not (soT t ok h)) fun σ H Q ⟨ow, s, SR, h⟩ => ?_
        unfold evT at h
        refine ⟨ow, s, SR, h.step fun k s1 ow1 H1 j e1 S1 r1 h1 => ?_⟩
        cases r1
        exact Po.fin (b := !k) h1 S1 rfl
      | _ => simp [chkT] at h
    | _ => simp [chkT] at h
  | .and a b, c, X, W, ok, e, h => by
    have key : ∀ {x : Expr} {y : Expr} {r : List Expr} {p : Pos}, PT X x (tT G gx cl W a) → PW X (.BoolOp .And (y :: r) p) (tT G gx cl W b) → PT X (.BoolOp .And (x :: y :: r) p) (tT G gx cl W (.and a b)) := fun h1 h2 =>
      PT.weak (pw_and h1 h2).pt fun σ H Q ⟨ow, s, SR, h⟩ => by
        unfold evT at h
        refine ⟨ow, s, SR, h.step fun k s1 ow1 H1 j e1 S1 r1 h1 => ?_⟩
        cases r1
        cases k with
        | true => exact ⟨ow1, s1, S1, h1⟩
        | false => exact Po.fin (b := false) h1 S1 rfl
    cases e with
    | BoolOp o xs p =>
      match o, xs, h with
      | .And, x :: y :: [], h =>
        unfold chkT at h
        simp only [Bool.and_eq_true] at h
        exact key (soT a ok h.1) (pw_and1 (soT b ok h.2))
      | .And, x :: y :: z :: r, h =>
        unfold chkT at h
        simp only [Bool.and_eq_true] at h
        exact key (soT a ok h.1) (pw_bool (soT b ok h.2))
      | .And, [], h => simp [chkT] at h
      | .And, [_], h => simp [chkT] at h
      | .Or, _, h => simp [chkT] at h
    | _ => simp [chkT] at h
  | .or a b, c, X, W, ok, e, h => by
    have key : ∀ {x : Expr} {y : Expr} {r : List Expr} {p : Pos}, PT X x (tT G gx cl W a) → PW X (.BoolOp .Or (y :: r) p) (tT G gx cl W b) → PT X (.BoolOp .Or (x :: y :: r) p) (tT G gx cl W (.or a b)) := fun h1 h2 =>
      PT.weak (pw_or h1 h2).pt fun σ H Q ⟨ow, s, SR, h⟩ => by
        unfold evT at h
        refine ⟨ow, s, SR, h.step fun k s1 ow1 H1 j e1 S1 r1 h1 => ?_⟩
        cases r1
        cases k with
        | false => exact ⟨ow1, s1, S1, h1⟩
        | true => exact Po.fin (b := true) h1 S1 rfl
    cases e with
    | BoolOp o xs p =>
      match o, xs, h with
      | .Or, x :: y :: [], h =>
        unfold chkT at h
        simp only [Bool.and_eq_true] at h
        exact key (soT a ok h.1) (pw_or1 (soT b ok h.2))
      | .Or, x :: y :: z :: r, h =>
        unfold chkT at h
        simp only [Bool.and_eq_true] at h
        exact key (soT a ok h.1) (pw_bool (soT b ok h.2))
      | .Or, [], h => simp [chkT] at h
      | .Or, [_], h => simp [chkT] at h
      | .And, _, h => simp [chkT] at h
    | _ => simp [chkT] at h
  | .val a, c, X, W, ok, e, h => by
    have h' : chkE c a e = true ∧ plainT e = true := by
      cases e <;> (unfold chkT at h; simp only [Bool.and_eq_true] at h; exact h)
    have ha := soE a ok h'.1
    cases e with
    | UnaryOp o x p =>
      cases o with
      | Not => exact absurd h'.2 (by simp [plainT])
      | _ => exact t_val ok ha fun _ => rfl
    | BoolOp _ _ _ => exact absurd h'.2 (by simp [plainT])
    | IfExp _ _ _ _ => exact absurd h'.2 (by simp [plainT])
    | Compare x os ys p =>
      cases a with
      | cmp op a b =>
        match os, ys, h with
        | [o], [y], h =>
          unfold chkT chkE at h
          simp only [Bool.and_eq_true, Bool.not_eq_true'] at h
          obtain ⟨⟨⟨⟨h1, h2⟩, h3⟩, h4⟩, h5⟩ := h
          cases eq_of_beq h1
          exact t_cmp ok (soE a ok h2) (soE b ok h3) h4
        | [], _, h => simp [chkT, chkE] at h
        | _ :: _ :: _, _, h => simp [chkT, chkE] at h
        | [_], [], h => simp [chkT, chkE] at h
        | [_], _ :: _ :: _, h => simp [chkT, chkE] at h
      | chn o1 o2 a b d =>
        match os, ys, h with
        | [q1, q2], [y, z], h =>
          unfold chkT chkE at h
          simp only [Bool.and_eq_true, Bool.not_eq_true'] at h
          obtain ⟨⟨⟨⟨⟨⟨⟨⟨⟨h1, h2⟩, h3⟩, h4⟩, h5⟩, h6⟩, h7⟩, h8⟩, h9⟩, h10⟩ := h
          cases eq_of_beq h1
          cases eq_of_beq h2
          exact t_chn ok (soE a ok h3) (soE b ok h4) (soE d ok h5) h6 h7 h8 h9
        | [], _, h => simp [chkT, chkE] at h
        | [_], _, h => simp [chkT, chkE] at h
        | _ :: _ :: _ :: _, _, h => simp [chkT, chkE] at h
        | [_, _], [], h => simp [chkT, chkE] at h
        | [_, _], [_], h => simp [chkT, chkE] at h
        | [_, _], _ :: _ :: _ :: _, h => simp [chkT, chkE] at h
      | fr m f => cases f <;> simp [chkE, chkF] at h'
      | _ => simp [chkE] at h'
    | _ => exact t_val ok ha fun _ => rfl
theorem soI : ∀ (t : CI) {c : Ck} {X : Cx} {W : WX} (ok : XOk G gx cl n c X W) {tg e : Expr}, chkI c t e = true → PI X tg e (tI G gx cl W t)
  | .sq a, c, X, W, ok, tg, e, h => by
    have h' : chkE c a e = true ∧ isBrw a = false := by
      cases e <;> (unfold chkI at h; simp only [Bool.and_eq_true, Bool.not_eq_true'] at h; exact h)
    exact i_sq ok (soE a ok h'.1) h'.2
  | .rng1 a, c, X, W, ok, tg, e, h => by
    unfold chkI at h
    split at h <;> first
      | (cases h; done)
      | (rename_i heq; cases heq)
    all_goals first
      | (simp only [Bool.and_eq_true, Bool.not_eq_true'] at h
         obtain ⟨⟨⟨⟨⟨h1, h2⟩, h3⟩, h4⟩, h5⟩, h6⟩ := h
         exact i_rng1 ok h1 h2 h3 (soE a ok h4) h5 h6)
      | skip
  | .rng2 a b, c, X, W, ok, tg, e, h => by
    unfold chkI at h
    split at h <;> first
      | (cases h; done)
      | (rename_i heq; cases heq)
    all_goals first
      | (simp only [Bool.and_eq_true, Bool.not_eq_true'] at h
         obtain ⟨⟨⟨⟨⟨⟨⟨⟨h1, h2⟩, h3⟩, h4⟩, h5⟩, h6⟩, h7⟩, h8⟩, h9⟩ := h
         exact i_rng2 ok h1 h2 h3 (soE a ok h4) h5 h6 (soE b ok h7) h8 h9)
      | skip
  | .rng3 a b d, c, X, W, ok, tg, e, h => by cases e <;> simp [chkI] at h
  | .enu a, c, X, W, ok, tg, e, h => by cases e <;> simp [chkI] at h
  | .zip a b, c, X, W, ok, tg, e, h => by cases e <;> simp [chkI] at h
end
end
end Mi

/-! Mi: statements, their evaluator, their check -/
namespace Mi
open PySem L2 PyProof.Rows

/-- a value that is stored: an expression's, or a new list for the name alone -/
inductive PV where
  | e (e : CE) | f (f : CF)
mutual
inductive CS where
  | asg (tg : TG) (e : CE) | own (i : Nat) (f : CF) | par (is : List Nat) (ps : List PV) | put (o k e : CE)
  | exp (e : CE) | ret (e : CE) | retN | ife (t : CT) (a b : CSs) | whl (t : CT) (b : CSs) | loop (tg : TG) (it : CI) (b : CSs)
  | brk | cnt | pss | nvr
inductive CSs where
  | nil | cons (a : CS) (l : CSs)
end
/-- how a statement ends -/
inductive Fl where
  | nx | bk | ct | rt (v : IV)

def loopF (f : IV → S → R Fl) : List IV → S → R Fl
  | [], s => .ok .nx s
  | x :: xs, s => (f x s).bind fun fl s1 => match fl with
    | .nx => loopF f xs s1
    | .ct => loopF f xs s1
    | .bk => .ok .nx s1
    | .rt v => .ok (.rt v) s1
def loopW (c : S → R Bool) (b : S → R Fl) : Nat → S → R Fl
  | 0, _ => .bad
  | n + 1, s => (c s).bind fun k s1 => if k then (b s1).bind fun fl s2 => match fl with
      | .nx => loopW c b n s2
      | .ct => loopW c b n s2
      | .bk => .ok .nx s2
      | .rt v => .ok (.rt v) s2
    else .ok .nx s1
section
variable (cl : Nat → List IV → Sto → Rc)
def evP : List PV → S → R (List SV)
  | [], s => .ok [] s
  | .e e :: ps, s => (evE cl e s).bind fun x s1 => (evP ps s1).bind fun xs s2 => .ok (.v x :: xs) s2
  | .f f :: ps, s => (evF cl f s).bind fun x s1 => (evP ps s1).bind fun xs s2 => .ok (.ol x :: xs) s2
def setsR : List Nat → List SV → Rho → Rho
  | i :: is, x :: xs, r => setsR is xs (r.set i (some x))
  | _, _, r => r
variable (F : Nat)
mutual
def evS : CS → S → R Fl
  | .asg tg e, s => (evE cl e s).bind fun x s1 => match asgT tg [x] s1.r with
    | some r => .ok .nx ⟨r, s1.h⟩
    | none => .bad
  | .own i f, s => (evF cl f s).bind fun xs s1 => .ok .nx ⟨s1.r.set i (some (.ol xs)), s1.h⟩
  | .par is ps, s => (evP cl ps s).bind fun xs s1 => .ok .nx ⟨setsR is xs s1.r, s1.h⟩
  | .put o k e, s => (evE cl e s).bind fun v s1 => (evE cl o s1).bind fun x s2 => (evE cl k s2).bind fun i s3 => match lsAt o x s3, i with
    | some xs, .int j => match L2.ixN xs.length j with
      | some m => .ok .nx (lsPut o x (xs.set m v) s3)
      | none => .bad
    | _, _ => .bad
  | .exp e, s => (evE cl e s).bind fun _ s1 => .ok .nx s1
  | .ret e, s => (evE cl e s).bind fun x s1 => .ok (.rt x) s1
  | .retN, s => .ok (.rt .non) s
  | .ife t a b, s => (evT cl t s).bind fun k s1 => if k then evSs a s1 else evSs b s1
  | .whl t b, s => loopW (evT cl t) (evSs b) F s
  | .loop tg it b, s => (evI cl it s).bind fun xs s1 => loopF (fun x s2 => match asgT tg [x] s2.r with
    | some r => evSs b ⟨r, s2.h⟩
    | none => .bad) xs s1
  | .brk, s => .ok .bk s
  | .cnt, s => .ok .ct s
  | .pss, s => .ok .nx s
  | .nvr, _ => .bad
def evSs : CSs → S → R Fl
  | .nil, s => .ok .nx s
  | .cons a l, s => (evS a s).bind fun fl s1 => match fl with
    | .nx => evSs l s1
    | fl => .ok fl s1
end
end

/-! ### the check -/
/-- x is a plain local name at slot i -/
def locB (c : Ck) (i : Nat) (x : Str) : Bool := c.N[i]? == some x && c.sc.names.lookup x == some .local
def isLcx : Expr → Bool
  | .ListComp _ _ _ _ => true
  | .SetComp _ _ _ _ => true
  | .DictComp _ _ _ _ _ => true
  | _ => false
/-- the store of a comprehension to y changes places with it -/
def swB (c : Ck) (y : Str) (py : Pos) (e : Expr) : Bool := match e with
  | .ListComp _ _ s p => c.sc.names.lookup y == some .local && py.line == p.line && !(s.names.any fun (n, k) => n == y && (k == .local || k == .cell))
  | _ => false
def lcOkF (c : Ck) (x : Str) (p : Pos) : CF → Expr → Bool
  | .lc _ _ _ _ _, v => swB c x p v
  | _, _ => false
def lcOkE (c : Ck) (x : Str) (p : Pos) : CE → Expr → Bool
  | .fr _ f, v => lcOkF c x p f v
  | _, _ => false
def chkPV (c : Ck) : List PV → List Expr → Bool
  | [], [] => true
  | .e a :: ps, e :: es => chkE c a e && !isBrw a && nst e && chkPV c ps es
  | .f a :: ps, e :: es => chkF c a e && nst e && chkPV c ps es
  | _, _ => false
/-- tuple targets that are not stored from the right -/
def straight (t e : Expr) : Bool := match t, e with
  | .Tuple ts _ _, .Tuple vs _ _ => !(ts.length == 2 || ts.length == 3) || ts.any (fun e => match e with | .Name _ _ => false | _ => true) || vs.all (foldedForSure 8)
  | .List _ _, _ => false
  | _, _ => true
def plainSub : Expr → Bool
  | .Slice _ _ _ _ => false
  | _ => true
mutual
def chkS (c : Ck) : CS → Stmt → Bool
  | .asg (.nm i) e, .Assign [.Name x p] v p2 => chkTG c (.nm i) [.Name x p] && chkE c e v && !isBrw e && (!isLcx v || lcOkE c x p e v)
  | .asg tg e, .Assign [.Tuple ts k p] v p2 => isS tg && chkTG c tg [.Tuple ts k p] && chkE c e v && !isBrw e && straight (.Tuple ts k p) v
  | .own i f, .Assign [.Name x p] v p2 => chkTG c (.nm i) [.Name x p] && chkF c f v && (!isLcx v || lcOkF c x p f v)
  | .par [i, j] ps, .Assign [.Tuple [.Name x px, .Name y py] _ _] (.Tuple [u, v] _ _) _ => locB c i x && locB c j y && py.line == px.line && !(i == j) && !(x == y) && chkPV c ps [u, v] && ![u, v].all (foldedForSure 8) && ![u, v].all (constantsAlone 8)
  | .par [i, j, l] ps, .Assign [.Tuple [.Name x px, .Name y py, .Name z pz] _ _] (.Tuple [u, v, w] _ _) _ => locB c i x && locB c j y && locB c l z && py.line == px.line && pz.line == px.line && !(i == j) && !(i == l) && !(j == l) && !(x == y) && !(x == z) && !(y == z) && chkPV c ps [u, v, w] && ![u, v, w].all (foldedForSure 8) && ![u, v, w].all (constantsAlone 8)
  | .put o k e, .Assign [.Subscript x y p] v p2 => chkE c o x && chkE c k y && !isBrw k && chkE c e v && !isBrw e && plainSub y && !isLcx v
  | .exp e, .Expr v _ => chkE c e v && !isLcx v
  | .pss, .Expr (.Constant (.str _) _ _) _ => true
  | .ret e, .Return (some v) _ => chkE c e v && !isBrw e
  | .retN, .Return none _ => true
  | .ife t a b, .If v p q _ => chkT c t v && chkSs c a p && chkSs c b q
  | .whl t b, .While v p [] _ => chkT c t v && chkSs c b p
  | .loop tg it b, .For t i p [] _ => isS tg && chkTG c tg [t] && chkI c it i && !isSet i && chkSs c b p
  | .brk, .Break _ => true
  | .cnt, .Continue _ => true
  | .pss, .Pass _ => true
  | .nvr, _ => true
  | _, _ => false
def chkSs (c : Ck) : CSs → List Stmt → Bool
  | .nil, [] => true
  | .cons a l, e :: es => chkS c a e && chkSs c l es
  | _, _ => false
end
end Mi

/-! Mi: statements are served -/
namespace Mi
open PySem L2 PyProof.Rows

section
variable {G : Gd} {gx : Gx} {cl : Nat → List IV → Sto → Rc} {n : Nat} {c : Ck} {X : Cx} {W : WX} {ow ow' : Ow} {H H' : Hp} {σ : L2.St} {s : S} {L F : Nat}
/-- what a block promises -/
def PoS (G : Gd) (gx : Gx) (W : WX) (L : Nat) (D : Ends) (ow : Ow) (H : Hp) : R Fl → Prop
  | .ok .nx s => ∀ ow' H' σ', Ext ow H ow' H' → SRel G ow' H' s σ' → σ'.length = L → D.nx σ' H'
  | .ok .bk s => ∀ ow' H' σ', Ext ow H ow' H' → SRel G ow' H' s σ' → σ'.length = L → D.bk σ' H'
  | .ok .ct s => ∀ ow' H' σ', Ext ow H ow' H' → SRel G ow' H' s σ' → σ'.length = L → D.ct σ' H'
  | .ok (.rt v) s => ∀ ow' H' σ' x, Ext ow H ow' H' → SRel G ow' H' s σ' → RepV G ow' H' v x → D.rt x H'
  | .exc e s => ∀ ow' H' σ' a d, Ext ow H ow' H' → SRel G ow' H' s σ' → ERel G gx ow' H' e a d → W a d σ' H'
  | .bad => False
theorem PoS.ext {D : Ends} {r : R Fl} (h : PoS G gx W L D ow H r) (e : Ext ow H ow' H') : PoS G gx W L D ow' H' r := by
  match r, h with
  | .ok .nx s, h => exact fun ow2 H2 σ2 e2 => h ow2 H2 σ2 (e.trans e2)
  | .ok .bk s, h => exact fun ow2 H2 σ2 e2 => h ow2 H2 σ2 (e.trans e2)
  | .ok .ct s, h => exact fun ow2 H2 σ2 e2 => h ow2 H2 σ2 (e.trans e2)
  | .ok (.rt v) s, h => exact fun ow2 H2 σ2 x e2 => h ow2 H2 σ2 x (e.trans e2)
  | .exc x s, h => exact fun ow2 H2 σ2 a d e2 => h ow2 H2 σ2 a d (e.trans e2)
  | .bad, h => exact h
/-- an expression ahead, its ground kept -/
theorem PoS.at {α β : Type} {D : Ends} {r : R α} {f : α → S → R Fl} (h : PoS G gx W L D ow H (r.bind f)) {ow1 : Ow} {H1 : Hp} (e1 : Ext ow H ow1 H1) {vr : Ow → Hp → α → β → Prop} {Q : β → Hp → Prop}
    (k : ∀ a s ow2 H2 b, Ext ow1 H1 ow2 H2 → SRel G ow2 H2 s σ → vr ow2 H2 a b → PoS G gx W L D ow H (f a s) → Q b H2) : Po G gx W σ vr Q ow1 H1 r := by
  cases r with
  | ok a s => exact fun ow2 H2 b e2 S2 r2 => k a s ow2 H2 b e2 S2 r2 h
  | exc x s => exact fun ow2 H2 a d e2 S2 => h ow2 H2 σ a d (e1.trans e2) S2
  | bad => exact h
theorem PoS.step {α β : Type} {D : Ends} {r : R α} {f : α → S → R Fl} (h : PoS G gx W L D ow H (r.bind f)) {vr : Ow → Hp → α → β → Prop} {Q : β → Hp → Prop}
    (k : ∀ a s ow1 H1 b, Ext ow H ow1 H1 → SRel G ow1 H1 s σ → vr ow1 H1 a b → PoS G gx W L D ow1 H1 (f a s) → Q b H1) : Po G gx W σ vr Q ow H r :=
  h.at (.refl _ _) fun a s ow1 H1 b e1 S1 r1 h1 => k a s ow1 H1 b e1 S1 r1 (h1.ext e1)
def tS (G : Gd) (gx : Gx) (cl : Nat → List IV → Sto → Rc) (W : WX) (L F : Nat) (a : CS) : TS := fun D σ H => ∃ ow s, SRel G ow H s σ ∧ PoS G gx W L D ow H (evS cl F a s)
def tSs (G : Gd) (gx : Gx) (cl : Nat → List IV → Sto → Rc) (W : WX) (L F : Nat) (a : CSs) : TS := fun D σ H => ∃ ow s, SRel G ow H s σ ∧ PoS G gx W L D ow H (evSs cl F a s)
theorem PS.weak {st : Stmt} {t t' : TS} (h : PS X st t) (k : ∀ D σ H, σ.length = X.N.length → t' D σ H → t D σ H) : PS X st t' := ⟨fun pins s σ H D I hw => h.run pins s σ H D I (k D σ H I.len hw)⟩
theorem PSs.weak {st : List Stmt} {t t' : TS} (h : PSs X st t) (k : ∀ D σ H, σ.length = X.N.length → t' D σ H → t D σ H) : PSs X st t' := ⟨fun pins s σ H D I hw => h.run pins s σ H D I (k D σ H I.len hw)⟩

/-! ### one by one -/
theorem s_nil : PSs X [] (tSs G gx cl W X.N.length F .nil) := PSs.weak pss_nil fun D σ H hl ⟨ow, s, SR, h⟩ => by
  unfold evSs at h
  exact h ow H σ (.refl _ _) SR hl
theorem s_cons {a : CS} {l : CSs} {st : Stmt} {sts : List Stmt} (ha : PS X st (tS G gx cl W X.N.length F a)) (hl : PSs X sts (tSs G gx cl W X.N.length F l)) : PSs X (st :: sts) (tSs G gx cl W X.N.length F (.cons a l)) :=
  PSs.weak (pss_cons ha hl) fun D σ H hlen ⟨ow, s, SR, h⟩ => by
    unfold evSs at h
    refine ⟨ow, s, SR, ?_⟩
    generalize evS cl F a s = r at h ⊢
    match r, h with
    | .ok .nx s, h => exact fun ow2 H2 σ2 e2 S2 l2 => ⟨ow2, s, S2, PoS.ext h e2⟩
    | .ok .bk s, h => exact h
    | .ok .ct s, h => exact h
    | .ok (.rt v) s, h => exact h
    | .exc x s, h => exact h
    | .bad, h => exact h
theorem g_name {i : Nat} {x : Str} {p : Pos} (ok : XOk G gx cl n c X W) (hc : chkTG c (.nm i) [.Name x p] = true) : X.N[i]? = some x ∧ L2.Loc X.env.scope x ∧ (X.fn x = true ∨ X.env.scope.names.lookup x = some .local) := by
  unfold chkTG wrB at hc
  simp only [Bool.and_eq_true, Bool.or_eq_true] at hc
  refine ⟨by rw [ok.hN]; exact eq_of_beq hc.1, ?_⟩
  unfold L2.Loc
  rw [ok.hS]
  rcases hc.2 with h | h
  · exact ⟨.inl (eq_of_beq h), .inr (eq_of_beq h)⟩
  · exact ⟨.inr (eq_of_beq h.1), .inl (ok.cf x h.2)⟩
/-- the promise of target = value -/
theorem asg_reads {tg : TG} {e : CE} {D : Ends} (nb : isBrw e = false) (hlen : σ.length = X.N.length) (h : tS G gx cl W X.N.length F (.asg tg e) D σ H) : tAsg (tE G gx cl W e) (g1 G X.N.length tg) D σ H := by
  obtain ⟨ow, s, SR, h⟩ := h
  unfold evS at h
  refine ⟨ow, s, SR, h.step fun x s1 ow1 H1 v e1 S1 r1 h1 => ?_⟩
  split at h1
  · rename_i r hr
    exact ⟨ow1, s1, x, r, S1, hlen, r1.rep nb, hr, fun σ' o S' => h1 ow1 H1 σ' (.refl _ _) S' (o.len.trans hlen)⟩
  · exact h1.elim
theorem own_reads {i : Nat} {f : CF} {D : Ends} (hlen : σ.length = X.N.length) (hi : i < X.N.length) (h : tS G gx cl W X.N.length F (.own i f) D σ H) : tAsg (tF G gx cl W f) (gName i) D σ H := by
  obtain ⟨ow, s, SR, h⟩ := h
  unfold evS at h
  refine ⟨ow, s, SR, h.at (.refl _ _) fun xs s1 ow1 H1 v e1 S1 ⟨p, vs, hv, hp, op, rr⟩ h1 => ?_⟩
  subst hv
  have e2 : Ext ow1 H1 (owUp ow1 p (some (.sl i))) H1 := turn_ext (o' := .nw) op (by intro z; cases z) (by intro n z; cases z)
  have S2 := turn_srel (q := some (.sl i)) S1 op (by intro n z; cases z) (by intro n z; cases z) (by intro n z; cases z)
  refine h1 _ H1 _ (e1.trans e2) ⟨S2.hr, fun j sv hj => ?_⟩ (by rw [List.length_set]; exact hlen)
  by_cases q : j = i
  · subst q
    rw [List.getElem?_set, if_pos rfl] at hj
    split at hj
    · cases hj
      exact ⟨_, by rw [List.getElem?_set, if_pos rfl, if_pos (by rw [hlen]; exact hi)], .ol owUp_same hp (rr.ext e2)⟩
    · cases hj
  · rw [List.getElem?_set_ne (Ne.symm q)] at hj
    obtain ⟨y, k1, k2⟩ := S2.sl j sv hj
    exact ⟨y, by rw [List.getElem?_set_ne (Ne.symm q)]; exact k1, k2⟩
theorem st_two {a b : Expr} (ha : nst a = true) (hb : nst b = true) {f : Expr → Bool} (hf : ∀ e, nst e = true → f e = false) : [a, b].any f = false := by
  simp [List.any, hf a ha, hf b hb]
theorem st_three {a b d : Expr} (ha : nst a = true) (hb : nst b = true) (hd : nst d = true) {f : Expr → Bool} (hf : ∀ e, nst e = true → f e = false) : [a, b, d].any f = false := by
  simp [List.any, hf a ha, hf b hb, hf d hd]
theorem sws2 {x y : Str} {a b : Expr} {px py pt pt2 : Pos} {kt k2 : Nat} {env : Env} (hb : env.blockKind = .function) (ha : nst a = true) (hbb : nst b = true) (hx : env.kindOf x = some .local) (hy : env.kindOf y = some .local) (hl : py.line = px.line)
   (hne : x ≠ y) (h1 : [a, b].all (foldedForSure 8) = false) (h2 : [a, b].all (constantsAlone 8) = false) :
  swappedStores [.Tuple [.Name x px, .Name y py] kt pt] (.Tuple [a, b] k2 pt2) env = pure (some [x, y]) := by
  unfold swappedStores
  dsimp only
  rw [hb, st_two ha hbb (by intro e he; cases e <;> first | rfl | cases he), h1, h2]
  have e1 : ((env.kindOf x == some NameKind.local && px.line == px.line) = true) := by rw [hx]; simp
  have e2 : ((env.kindOf y == some NameKind.local && py.line == px.line) = true) := by rw [hy, hl]; simp
  have ne : (y == x) = false := by simpa using Ne.symm hne
  simp only [List.filterMap, List.head?, Option.map, Option.getD, Expr.pos, e1, e2, if_true, List.eraseDups, List.eraseDupsBy, List.eraseDupsBy.loop, List.any, ne]
  rfl
theorem sws3 {x y z : Str} {a b d : Expr} {px py pz pt pt2 : Pos} {kt k2 : Nat} {env : Env} (hb : env.blockKind = .function) (ha : nst a = true) (hbb : nst b = true) (hd : nst d = true) (hx : env.kindOf x = some .local) (hy : env.kindOf y = some .local) (hz : env.kindOf z = some .local) (hl : py.line = px.line) (hl2 : pz.line = px.line)
   (hne : x ≠ y) (hne2 : x ≠ z) (hne3 : y ≠ z) (h1 : [a, b, d].all (foldedForSure 8) = false) (h2 : [a, b, d].all (constantsAlone 8) = false) :
  swappedStores [.Tuple [.Name x px, .Name y py, .Name z pz] kt pt] (.Tuple [a, b, d] k2 pt2) env = pure (some [x, y, z]) := by
  unfold swappedStores
  dsimp only
  rw [hb, st_three ha hbb hd (by intro e he; cases e <;> first | rfl | cases he), h1, h2]
  have e1 : ((env.kindOf x == some NameKind.local && px.line == px.line) = true) := by rw [hx]; simp
  have e2 : ((env.kindOf y == some NameKind.local && py.line == px.line) = true) := by rw [hy, hl]; simp
  have e3 : ((env.kindOf z == some NameKind.local && pz.line == px.line) = true) := by rw [hz, hl2]; simp
  have ne : (y == x) = false := by simpa using Ne.symm hne
  have ne2 : (z == x) = false := by simpa using Ne.symm hne2
  have ne3 : (z == y) = false := by simpa using Ne.symm hne3
  simp only [List.filterMap, List.head?, Option.map, Option.getD, Expr.pos, e1, e2, e3, if_true, List.eraseDups, List.eraseDupsBy, List.eraseDupsBy.loop, List.any, ne, ne2, ne3]
  rfl

theorem bk_of {env : Env} (h : env.scope.kind = .function) : env.blockKind = .function := by unfold Env.blockKind; rw [h]; rfl
theorem lcx_sw {v : Expr} {t : Option Expr} {l : Nat} {env : Env} (h : isLcx v = false) : swapsWith v t l env = pure false := by
  cases v <;> first | rfl | cases h
theorem fold_ok {i : Expr} {env : Env} (h : isSet i = false) : ∀ v, foldedSetIterable i env v = pure v := by
  intro v
  cases i <;> first | rfl | cases h
theorem lcF {f : CF} {x : Str} {p : Pos} {v : Expr} (h : lcOkF c x p f v = true) : ∃ own tg it ifs elt, f = .lc own tg it ifs elt ∧ swB c x p v = true := by
  cases f with
  | lc own tg it ifs elt => exact ⟨_, _, _, _, _, rfl, h⟩
  | _ => cases h
theorem lcE {e : CE} {x : Str} {p : Pos} {v : Expr} (h : lcOkE c x p e v = true) : ∃ m own tg it ifs elt, e = .fr m (.lc own tg it ifs elt) ∧ swB c x p v = true := by
  cases e with
  | fr m f =>
    obtain ⟨own, tg, it, ifs, elt, rfl, h1⟩ := lcF h
    exact ⟨_, _, _, _, _, _, rfl, h1⟩
  | _ => cases h
/-- a comprehension that is stored -/
theorem s_lc {own : List (Str × Nat)} {tg : TG} {it : CI} {ifs : CT} {elt : CE} {i : Nat} {x : Str} {p p2 : Pos} {v : Expr} (ok : XOk G gx cl n c X W) (hf : chkF c (.lc own tg it ifs elt) v = true) (hs : swB c x p v = true) (hc : chkTG c (.nm i) [.Name x p] = true) (hk : X.env.scope.kind = .function) :
    ∃ wi g tt te vs, PS X (.Assign [.Name x p] v p2) (tAsg (tLc wi g tt te vs) (gName i)) ∧ ∀ σ H Q, σ.length = X.N.length → tF G gx cl W (.lc own tg it ifs elt) σ H Q → tLc wi g tt te vs σ H Q := by
  obtain ⟨hi, hx, hfn⟩ := g_name ok hc
  unfold chkF at hf
  split at hf <;> first
    | (cases hf; done)
    | (rename_i heq; cases heq)
  all_goals first
    | (simp only [Bool.and_eq_true, Bool.not_eq_true'] at hf
       obtain ⟨⟨⟨⟨⟨⟨⟨⟨h1, h2⟩, h3⟩, h4⟩, h5⟩, h6⟩, h7⟩, h8⟩, h9⟩ := hf
       unfold swB at hs
       simp only [Bool.and_eq_true, Bool.not_eq_true'] at hs
       have hloc : X.env.scope.names.lookup x = some .local := by rw [ok.hS]; exact eq_of_beq hs.1.1
       refine ⟨_, _, _, _, _, ps_setLc ok.cm ok.nd hi hloc (sw_true hk hloc hs.1.2 hs.2) (soI it ok h5) (by rw [ok.hN, ok.hS]; exact blkOk_by h1) (fun s H C k fp => pg_of (ok.blk s H _ C k fp) h2 h4) (fun s H C k fp => ?_) (fun s H C k fp => soE elt (ok.blk s H _ C k fp) h8) (fold_ok h6), fun σ H Q hl hw => lc_reads (fun j hj => List.contains_iff_mem.mp (List.all_eq_true.mp h3 j hj)) h9 hl hw⟩
       · split at h7
         · have e : ifs = .yes := by
             unfold isYes at h7
             split at h7
             · rfl
             · cases h7
           rw [e]
           exact t_yes
         · exact pts_one (soT ifs (ok.blk s H _ C k fp) h7)
         · cases h7)
    | skip
/-- g1 of a name -/
theorem g1_name {i : Nat} {v : V} {Q : L2.St → Hp → Prop} {N : Nat} (hi : i < N) (h : g1 G N (.nm i) v σ H Q) : gName i v σ H Q := by
  obtain ⟨ow, st, y, r', SR, hl, rx, ha, k⟩ := h
  have e : some (st.r.set i (some (.v y))) = some r' := by unfold asgT at ha; exact ha
  cases e
  refine k _ ⟨by rw [List.length_set], fun j hj => ?_⟩ (SR.set i rx (by rw [hl]; exact hi))
  unfold tgN at hj
  rw [List.getElem?_set_ne (by rintro rfl; exact hj (List.mem_singleton.mpr rfl))]
theorem PSk {st : Stmt} {t : TS} (h : X.env.scope.kind = .function → PS X st t) : PS X st t := ⟨fun pins s σ H D I hw => (h I.ok.kind).run pins s σ H D I hw⟩
theorem s_asgN {i : Nat} {e : CE} {x : Str} {p p2 : Pos} {v : Expr} (ok : XOk G gx cl n c X W) (hc : chkTG c (.nm i) [.Name x p] = true) (he : chkE c e v = true) (nb : isBrw e = false)
    (hl : isLcx v = true → lcOkE c x p e v = true) : PS X (.Assign [.Name x p] v p2) (tS G gx cl W X.N.length F (.asg (.nm i) e)) := by
  obtain ⟨hi, hx, hfn⟩ := g_name ok hc
  have hlt : i < X.N.length := (List.getElem?_eq_some_iff.mp hi).1
  cases hv : isLcx v with
  | false =>
    refine PS.weak (ps_set ok.nd hi hx (soE e ok he) (lcx_sw hv) hfn) fun D σ H hlen h => ?_
    have := asg_reads nb hlen h
    obtain ⟨ow, s, SR, h⟩ := this
    exact ⟨ow, s, SR, h.vrQ fun y H' hy => g1_name hlt hy⟩
  | true =>
    obtain ⟨m, own, tg, it, ifs, elt, rfl, hl'⟩ := lcE (hl hv)
    have hf : chkF c (.lc own tg it ifs elt) v = true := by cases v <;> (unfold chkE at he; exact he)
    refine PSk fun hk => ?_
    obtain ⟨wi, g, tt, te, vs, h1, h2⟩ := s_lc (i := i) (p2 := p2) ok hf hl' hc hk
    refine PS.weak h1 fun D σ H hlen h => ?_
    have h3 := asg_reads nb hlen h
    refine h2 σ H _ hlen (fr_reads (m := m) ?_)
    obtain ⟨ow, s, SR, h⟩ := h3
    exact ⟨ow, s, SR, h.vrQ fun y H' hy => g1_name hlt hy⟩
theorem s_own {i : Nat} {f : CF} {x : Str} {p p2 : Pos} {v : Expr} (ok : XOk G gx cl n c X W) (hc : chkTG c (.nm i) [.Name x p] = true) (he : chkF c f v = true)
    (hl : isLcx v = true → lcOkF c x p f v = true) : PS X (.Assign [.Name x p] v p2) (tS G gx cl W X.N.length F (.own i f)) := by
  obtain ⟨hi, hx, hfn⟩ := g_name ok hc
  have hlt : i < X.N.length := (List.getElem?_eq_some_iff.mp hi).1
  cases hv : isLcx v with
  | false => exact PS.weak (ps_set ok.nd hi hx (soF f ok he) (lcx_sw hv) hfn) fun D σ H hlen h => own_reads hlen hlt h
  | true =>
    obtain ⟨own, tg, it, ifs, elt, rfl, hl'⟩ := lcF (hl hv)
    refine PSk fun hk => ?_
    obtain ⟨wi, g, tt, te, vs, h1, h2⟩ := s_lc (i := i) (p2 := p2) ok he hl' hc hk
    exact PS.weak h1 fun D σ H hlen h => h2 σ H _ hlen (own_reads hlen hlt h)
theorem fm_lt {α β : Type} {g : α → Option β} : ∀ {ts : List α}, (∃ e ∈ ts, g e = none) → (ts.filterMap g).length < ts.length
  | [], ⟨e, he, _⟩ => by simp at he
  | t :: ts, ⟨e, he, hg⟩ => by
    rw [List.length_cons]
    cases ht : g t with
    | none =>
      rw [List.filterMap_cons_none ht]
      exact Nat.lt_succ_of_le (List.length_filterMap_le ..)
    | some b =>
      rw [List.filterMap_cons_some ht, List.length_cons]
      have hm : e ∈ ts := by
        rcases List.mem_cons.mp he with q | q
        · subst q; rw [hg] at ht; cases ht
        · exact q
      exact Nat.succ_lt_succ (fm_lt ⟨e, hm, hg⟩)
theorem sws_no {ts vs : List Expr} {k k2 : Nat} {p p2 : Pos} {env : Env} (hb : env.blockKind = .function) (h : straight (.Tuple ts k p) (.Tuple vs k2 p2) = true) : swappedStores [.Tuple ts k p] (.Tuple vs k2 p2) env = pure none := by
  unfold straight at h
  simp only [Bool.or_eq_true, Bool.not_eq_true'] at h
  unfold swappedStores
  dsimp only
  rw [hb]
  split
  · rfl
  · rename_i g1
    split
    · rfl
    · split
      · rfl
      · rename_i g3
        split
        · rfl
        · rename_i g4
          exfalso
          rcases h with (h | h) | h
          · simp [h] at g1
          · rw [List.any_eq_true] at h
            obtain ⟨e, he, hne⟩ := h
            simp only [Bool.or_eq_true, bne_iff_ne, not_or, Decidable.not_not] at g3
            refine absurd g3.1 (Nat.ne_of_lt (fm_lt ⟨e, he, ?_⟩))
            cases e <;> first | rfl | cases hne
          · exact g4 h
theorem s_asgT {tg : TG} {e : CE} {ts : List Expr} {k : Nat} {p p2 : Pos} {v : Expr} (ok : XOk G gx cl n c X W) (hS : isS tg = true) (hc : chkTG c tg [.Tuple ts k p] = true) (he : chkE c e v = true) (nb : isBrw e = false) (hst : straight (.Tuple ts k p) v = true) :
    PS X (.Assign [.Tuple ts k p] v p2) (tS G gx cl W X.N.length F (.asg tg e)) := by
  refine PSk fun hk => PS.weak (ps_asg (soE e ok he) (pg_of ok hS hc) (by cases v <;> rfl) ?_ rfl) fun D σ H hlen h => asg_reads nb hlen h
  cases v with
  | Tuple vs k2 p3 => exact sws_no (bk_of hk) hst
  | _ => rfl
end
end Mi

/-! Mi: statements, on; blocks -/
namespace Mi
open PySem L2 PyProof.Rows

section
variable {G : Gd} {gx : Gx} {cl : Nat → List IV → Sto → Rc} {n : Nat} {c : Ck} {X : Cx} {W : WX} {ow ow' ow0 : Ow} {H H' H0' : Hp} {σ : L2.St} {s : S} {F : Nat}

/-! ### several values stored at once -/
/-- nothing at p is to be kept -/
def FreeAt (ow0 : Ow) (H0 : Hp) (p : Addr) : Prop := ow0 p ≠ some .fo ∧ (∀ n, ow0 p ≠ some (.hp n)) ∧ (ow0 p = none → H0 p = none)
theorem FreeAt.back {p : Addr} (h : FreeAt ow H p) (e : Ext ow0 H0' ow H) : FreeAt ow0 H0' p := by
  refine ⟨fun z => h.1 (e.fo p z).1, fun n z => h.2.1 n (e.hp p n z), fun z => ?_⟩
  cases q : H0' p with
  | none => rfl
  | some o =>
    obtain ⟨h1, h2⟩ := e.keep p o q z
    rw [h.2.2 h2] at h1; cases h1
theorem FreeAt.nw {p : Addr} (h : ow p = some .nw) : FreeAt ow H p := by
  unfold FreeAt
  rw [h]
  exact ⟨fun z => (nomatch z), fun n z => (nomatch z), fun z => (nomatch z)⟩
theorem FreeAt.ext {p : Addr} (h : FreeAt ow0 H0' p) (e : Ext ow0 H0' ow H) (q : Option Own) : Ext ow0 H0' (owUp ow p q) H := by
  refine ⟨fun b u hb nn => ?_, fun b hb => ?_, fun b n hb => ?_⟩
  · have z : b ≠ p := by rintro rfl; rw [h.2.2 nn] at hb; cases hb
    rw [owUp_ne z]; exact e.keep b u hb nn
  · have z : b ≠ p := by rintro rfl; exact h.1 hb
    rw [owUp_ne z]; exact e.fo b hb
  · have z : b ≠ p := by rintro rfl; exact h.2.1 n hb
    rw [owUp_ne z]; exact e.hp b n hb
inductive PvRels (G : Gd) (ow0 : Ow) (H0 : Hp) (ow : Ow) (H : Hp) : List SV → List V → List Addr → Prop
  | nil : PvRels G ow0 H0 ow H [] [] []
  | v {x : IV} {y : V} {xs : List SV} {ys : List V} {as : List Addr} (h : RepV G ow H x y) (t : PvRels G ow0 H0 ow H xs ys as) : PvRels G ow0 H0 ow H (.v x :: xs) (y :: ys) as
  | ol {x : List IV} {p : Addr} {vs : List V} {xs : List SV} {ys : List V} {as : List Addr} (f : FreeAt ow0 H0 p) (o : ow p = some .fo) (h : H p = some (.lst vs)) (r : RepVs G ow H x vs) (d : p ∉ as) (t : PvRels G ow0 H0 ow H xs ys as) :
    PvRels G ow0 H0 ow H (.ol x :: xs) (.ref p :: ys) (p :: as)
theorem PvRels.base (e : Ext ow0 H0' ow H) {ow1 : Ow} {H1 : Hp} : ∀ {xs : List SV} {ys : List V} {as : List Addr}, PvRels G ow H ow1 H1 xs ys as → PvRels G ow0 H0' ow1 H1 xs ys as
  | _, _, _, .nil => .nil
  | _, _, _, .v h t => .v h (t.base e)
  | _, _, _, .ol f o h r d t => .ol (f.back e) o h r d (t.base e)
theorem PvRels.free {ow1 : Ow} {H1 : Hp} : ∀ {xs : List SV} {ys : List V} {as : List Addr}, PvRels G ow H ow1 H1 xs ys as → ∀ q ∈ as, FreeAt ow H q
  | _, _, _, .nil, _, h => by simp at h
  | _, _, _, .v _ t, q, h => t.free q h
  | _, _, _, .ol f _ _ _ _ t, q, h => by
    rcases List.mem_cons.mp h with z | z
    · rw [z]; exact f
    · exact t.free q z
def tP (G : Gd) (gx : Gx) (cl : Nat → List IV → Sto → Rc) (W : WX) (ps : List PV) : TA := fun σ H Q => ∃ ow s, SRel G ow H s σ ∧ Po G gx W σ (fun ow' H' svs vs => ∃ as, PvRels G ow H ow' H' svs vs as) Q ow H (evP cl ps s)
theorem p_all (ok : XOk G gx cl n c X W) : ∀ {ps : List PV} {es : List Expr}, chkPV c ps es = true → PA X es (tP G gx cl W ps)
  | [], [], _ => PA.weak pa_nil fun σ H Q ⟨ow, s, SR, h⟩ => by
    unfold evP at h
    exact Po.fin (b := []) h SR ⟨[], .nil⟩
  | .e a :: ps, e :: es, h => by
    unfold chkPV at h
    simp only [Bool.and_eq_true, Bool.not_eq_true'] at h
    refine PA.weak (pa_cons (soE a ok h.1.1.1) (p_all ok h.2) (star_cons h.1.2)) fun σ H Q ⟨ow, s, SR, h'⟩ => ?_
    unfold evP at h'
    refine ⟨ow, s, SR, h'.step fun x s1 ow1 H1 y e1 S1 r1 h1 => ⟨ow1, s1, S1, h1.step fun svs s2 ow2 H2 ys e2 S2 ⟨as, r2⟩ h2 => ?_⟩⟩
    exact Po.fin (b := y :: ys) h2 S2 ⟨as, .v ((r1.rep h.1.1.2).ext e2) (r2.base e1)⟩
  | .f a :: ps, e :: es, h => by
    unfold chkPV at h
    simp only [Bool.and_eq_true] at h
    refine PA.weak (pa_cons (soF a ok h.1.1) (p_all ok h.2) (star_cons h.1.2)) fun σ H Q ⟨ow, s, SR, h'⟩ => ?_
    unfold evP at h'
    refine ⟨ow, s, SR, h'.at (.refl _ _) fun x s1 ow1 H1 y e1 S1 ⟨p, vs, hv, hp, op, rr⟩ h1 => ?_⟩
    subst hv
    have e2 : Ext ow1 H1 (owUp ow1 p (some .fo)) H1 := turn_ext (o' := .nw) op (by intro z; cases z) (by intro n z; cases z)
    have S2 := turn_srel (q := some .fo) S1 op (by intro n z; cases z) (by intro n z; cases z) (by intro n z; cases z)
    refine ⟨_, s1, S2, h1.at (e1.trans e2) fun svs s2 ow2 H2 ys e3 S3 ⟨as, r2⟩ h2 => ?_⟩
    have f3 := e3.fo p owUp_same
    refine Po.fin' (b := .ref p :: ys) h2 ((e1.trans e2).trans e3) S3 ⟨p :: as, .ol ((FreeAt.nw op).back e1) f3.1 (f3.2.trans hp) (rr.ext (e2.trans e3)) (fun z => ?_) (r2.base (e1.trans e2))⟩
    exact (r2.free p z).1 owUp_same
  | [], _ :: _, h => by simp [chkPV] at h
  | _ :: _, [], h => by rename_i a _; cases a <;> simp [chkPV] at h
/-- a slot takes an own list -/
theorem own_new {i : Nat} {p : Addr} {o : Own} {xs : List IV} {vs : List V} (SR : SRel G ow H s σ) (hi : i < σ.length) (op : ow p = some o) (h2 : ∀ n, o ≠ .hp n) (h3 : ∀ i, o ≠ .sl i) (hp : H p = some (.lst vs)) (rr : RepVs G ow H xs vs) :
    SRel G (owUp ow p (some (.sl i))) H ⟨s.r.set i (some (.ol xs)), s.h⟩ (σ.set i (some (.ref p))) := by
  have S2 := turn_srel (q := some (.sl i)) SR op h2 h3 (by intro n z; cases z)
  have e0 := turn_ext0 (H := H) (q := some (.sl i)) op h2
  refine ⟨S2.hr, fun j sv hj => ?_⟩
  by_cases q : j = i
  · subst q
    rw [List.getElem?_set, if_pos rfl] at hj
    split at hj
    · cases hj
      exact ⟨_, by rw [List.getElem?_set, if_pos rfl, if_pos hi], .ol owUp_same hp (rr.ext0 e0)⟩
    · cases hj
  · rw [List.getElem?_set_ne (Ne.symm q)] at hj
    obtain ⟨y, k1, k2⟩ := S2.sl j sv hj
    exact ⟨y, by rw [List.getElem?_set_ne (Ne.symm q)]; exact k1, k2⟩
theorem PvRels.ext0 {ow1 ow2 : Ow} {H1 : Hp} (e : Ext0 ow1 H1 ow2 H1) : ∀ {xs : List SV} {ys : List V} {as : List Addr}, PvRels G ow H ow1 H1 xs ys as → (∀ q ∈ as, ow2 q = ow1 q) → PvRels G ow H ow2 H1 xs ys as
  | _, _, _, .nil, _ => .nil
  | _, _, _, .v h t, k => .v (h.ext0 e) (t.ext0 e k)
  | _, _, _, .ol f o h r d t, k => .ol f ((k _ (List.mem_cons_self ..)).trans o) h (r.ext0 e) d (t.ext0 e fun q hq => k q (List.mem_cons_of_mem _ hq))
def setsV : List Nat → List V → L2.St → L2.St
  | i :: is, x :: xs, r => setsV is xs (r.set i (some x))
  | _, _, r => r
theorem setsV_len : ∀ {is : List Nat} {vs : List V} {σ : L2.St}, (setsV is vs σ).length = σ.length
  | [], _, _ => by simp [setsV]
  | _ :: _, [], _ => by simp [setsV]
  | i :: is, v :: vs, σ => by unfold setsV; rw [setsV_len, List.length_set]
theorem adopt : ∀ {is : List Nat} {xs : List SV} {vs : List V} {as : List Addr} {ow1 : Ow} {H1 : Hp} {s1 : S} {σ : L2.St}, Ext ow H ow1 H1 → SRel G ow1 H1 s1 σ → PvRels G ow H ow1 H1 xs vs as → (∀ i ∈ is, i < σ.length) →
    ∃ ow2, Ext ow H ow2 H1 ∧ SRel G ow2 H1 ⟨setsR is xs s1.r, s1.h⟩ (setsV is vs σ)
  | [], xs, vs, as, ow1, H1, s1, σ, e, SR, r, _ => ⟨ow1, e, by cases xs <;> (unfold setsR setsV; exact SR)⟩
  | i :: is, [], vs, as, ow1, H1, s1, σ, e, SR, r, _ => by
    cases r
    exact ⟨ow1, e, by unfold setsR setsV; exact SR⟩
  | i :: is, .v x :: xs, vs, as, ow1, H1, s1, σ, e, SR, r, hl => by
    cases r with
    | v h t =>
      have S1 := SR.set i h (hl i (List.mem_cons_self ..))
      obtain ⟨ow2, e2, S2⟩ := adopt (is := is) e S1 t fun j hj => by rw [List.length_set]; exact hl j (List.mem_cons_of_mem _ hj)
      exact ⟨ow2, e2, by unfold setsR setsV; exact S2⟩
  | i :: is, .ol x :: xs, vs, as, ow1, H1, s1, σ, e, SR, r, hl => by
    cases r with
    | @ol _ p ws _ ys as' f o h rr d t =>
      have S1 := own_new (i := i) SR (hl i (List.mem_cons_self ..)) o (by intro n z; cases z) (by intro n z; cases z) h rr
      have e0 := turn_ext0 (H := H1) (q := some (.sl i)) o (by intro n z; cases z)
      obtain ⟨ow2, e2, S2⟩ := adopt (is := is) (f.ext e _) S1 (t.ext0 e0 fun q hq => owUp_ne (by rintro rfl; exact d hq)) fun j hj => by rw [List.length_set]; exact hl j (List.mem_cons_of_mem _ hj)
      exact ⟨ow2, e2, by unfold setsR setsV; exact S2⟩
  | _ :: _, .od _ _ _ :: _, _, _, _, _, _, _, _, _, r, _ => nomatch r
theorem par_reads {is : List Nat} {ps : List PV} {D : Ends} {L : Nat} (hlen : σ.length = L) (hi : ∀ i ∈ is, i < L) (h : tS G gx cl W L F (.par is ps) D σ H) : tP G gx cl W ps σ H fun vs H1 => D.nx (setsV is vs σ) H1 := by
  obtain ⟨ow, s, SR, h⟩ := h
  unfold evS at h
  refine ⟨ow, s, SR, h.at (.refl _ _) fun svs s1 ow1 H1 vs e1 S1 ⟨as, r1⟩ h1 => ?_⟩
  obtain ⟨ow2, e2, S2⟩ := adopt (is := is) e1 S1 r1 fun i hh => by rw [hlen]; exact hi i hh
  exact h1 ow2 H1 _ e2 S2 (by rw [setsV_len]; exact hlen)
def lenR (n : Nat) : R (List SV) → Prop
  | .ok svs _ => svs.length = n
  | _ => True
theorem tP_len {ps : List PV} {Q : List V → Hp → Prop} (h : tP G gx cl W ps σ H Q) : tP G gx cl W ps σ H fun vs H1 => vs.length = ps.length ∧ Q vs H1 := by
  obtain ⟨ow, s, SR, h⟩ := h
  refine ⟨ow, s, SR, ?_⟩
  have key : ∀ {ps : List PV} {s : S}, lenR ps.length (evP cl ps s) := by
    intro ps
    induction ps with
    | nil => intro s; unfold evP; exact rfl
    | cons p ps ih =>
      intro s
      cases p with
      | e a =>
        unfold evP
        cases evE cl a s with
        | ok x s1 =>
          have := ih (s := s1)
          rw [bind_ok]
          cases h2 : evP cl ps s1 with
          | ok ys s2 => rw [h2] at this; exact congrArg (· + 1) this
          | exc e s2 => trivial
          | bad => trivial
        | exc e s1 => trivial
        | bad => trivial
      | f a =>
        unfold evP
        cases evF cl a s with
        | ok x s1 =>
          have := ih (s := s1)
          rw [bind_ok]
          cases h2 : evP cl ps s1 with
          | ok ys s2 => rw [h2] at this; exact congrArg (· + 1) this
          | exc e s2 => trivial
          | bad => trivial
        | exc e s1 => trivial
        | bad => trivial
  have k := key (ps := ps) (s := s)
  generalize evP cl ps s = r at h k
  cases r with
  | ok svs s1 =>
    intro ow' H' vs e1 S1 r1
    refine ⟨?_, h ow' H' vs e1 S1 r1⟩
    obtain ⟨as, r1⟩ := r1
    rw [← (show svs.length = ps.length from k)]
    clear k h
    induction r1 with
    | nil => rfl
    | v h t ih => rw [List.length_cons, List.length_cons, ih]
    | ol f o h r d t ih => rw [List.length_cons, List.length_cons, ih]
  | exc e s1 => exact h
  | bad => exact h

theorem nmL_loc (ok : XOk G gx cl n c X W) {i : Nat} {x : Str} (h : locB c i x = true) : X.N[i]? = some x ∧ X.env.scope.names.lookup x = some .local := by
  unfold locB at h
  rw [Bool.and_eq_true] at h
  rw [ok.hN, ok.hS]
  exact ⟨eq_of_beq h.1, eq_of_beq h.2⟩
theorem chkPV_nst : ∀ {ps : List PV} {es : List Expr}, chkPV c ps es = true → es.all nst = true
  | [], [], _ => rfl
  | .e a :: ps, e :: es, h => by
    unfold chkPV at h
    simp only [Bool.and_eq_true] at h
    rw [List.all_cons, h.1.2, chkPV_nst h.2]; rfl
  | .f a :: ps, e :: es, h => by
    unfold chkPV at h
    simp only [Bool.and_eq_true] at h
    rw [List.all_cons, h.1.2, chkPV_nst h.2]; rfl
  | [], _ :: _, h => by simp [chkPV] at h
  | _ :: _, [], h => by rename_i a _; cases a <;> simp [chkPV] at h
theorem chkPV_len : ∀ {ps : List PV} {es : List Expr}, chkPV c ps es = true → ps.length = es.length
  | [], [], _ => rfl
  | .e a :: ps, e :: es, h => by
    unfold chkPV at h
    simp only [Bool.and_eq_true] at h
    rw [List.length_cons, List.length_cons, chkPV_len h.2]
  | .f a :: ps, e :: es, h => by
    unfold chkPV at h
    simp only [Bool.and_eq_true] at h
    rw [List.length_cons, List.length_cons, chkPV_len h.2]
  | [], _ :: _, h => by simp [chkPV] at h
  | _ :: _, [], h => by rename_i a _; cases a <;> simp [chkPV] at h
theorem tP_imp {ps : List PV} {Q Q' : List V → Hp → Prop} (h : tP G gx cl W ps σ H Q) (k : ∀ vs H, Q vs H → Q' vs H) : tP G gx cl W ps σ H Q' := by
  obtain ⟨ow, s, SR, h⟩ := h
  exact ⟨ow, s, SR, h.vrQ k⟩
theorem s_par2 {i j : Nat} {ps : List PV} {x y : Str} {a b : Expr} {px py pt pt2 p : Pos} {kt k2 : Nat} (ok : XOk G gx cl n c X W) (hx : locB c i x = true) (hy : locB c j y = true) (hl : py.line = px.line) (hij : i ≠ j) (hxy : x ≠ y)
    (hp : chkPV c ps [a, b] = true) (h1 : [a, b].all (foldedForSure 8) = false) (h2 : [a, b].all (constantsAlone 8) = false) :
    PS X (.Assign [.Tuple [.Name x px, .Name y py] kt pt] (.Tuple [a, b] k2 pt2) p) (tS G gx cl W X.N.length F (.par [i, j] ps)) := by
  obtain ⟨hi, hxl⟩ := nmL_loc ok hx
  obtain ⟨hj, hyl⟩ := nmL_loc ok hy
  have hn := chkPV_nst hp
  simp only [List.all_cons, List.all_nil, Bool.and_true, Bool.and_eq_true] at hn
  refine PSk fun hk => PS.weak (ps_par ok.cm ok.nd hi hj hij hxl hyl (p_all ok hp) (sws2 (bk_of hk) hn.1 hn.2 hxl hyl hl hxy h1 h2) rfl) fun D σ H hlen h => ?_
  have h3 := tP_len (par_reads hlen (fun q hq => by
    rcases List.mem_cons.mp hq with z | z
    · rw [z]; exact (List.getElem?_eq_some_iff.mp hi).1
    · rw [List.mem_singleton.mp z]; exact (List.getElem?_eq_some_iff.mp hj).1) h)
  refine tP_imp h3 fun vs H ⟨hv, hq⟩ => ?_
  rw [chkPV_len hp] at hv
  match vs, hv, hq with
  | [v, w], _, hq => exact ⟨v, w, rfl, hq⟩
theorem s_par3 {i j l : Nat} {ps : List PV} {x y z : Str} {a b d : Expr} {px py pz pt pt2 p : Pos} {kt k2 : Nat} (ok : XOk G gx cl n c X W) (hx : locB c i x = true) (hy : locB c j y = true) (hz : locB c l z = true) (hl : py.line = px.line) (hl2 : pz.line = px.line)
    (hij : i ≠ j) (hil : i ≠ l) (hjl : j ≠ l) (hxy : x ≠ y) (hxz : x ≠ z) (hyz : y ≠ z)
    (hp : chkPV c ps [a, b, d] = true) (h1 : [a, b, d].all (foldedForSure 8) = false) (h2 : [a, b, d].all (constantsAlone 8) = false) :
    PS X (.Assign [.Tuple [.Name x px, .Name y py, .Name z pz] kt pt] (.Tuple [a, b, d] k2 pt2) p) (tS G gx cl W X.N.length F (.par [i, j, l] ps)) := by
  obtain ⟨hi, hxl⟩ := nmL_loc ok hx
  obtain ⟨hj, hyl⟩ := nmL_loc ok hy
  obtain ⟨hk3, hzl⟩ := nmL_loc ok hz
  have hn := chkPV_nst hp
  simp only [List.all_cons, List.all_nil, Bool.and_true, Bool.and_eq_true] at hn
  refine PSk fun hk => PS.weak (ps_par3 ok.cm ok.nd hi hj hk3 hij hil hjl hxl hyl hzl (p_all ok hp) (sws3 (bk_of hk) hn.1 hn.2.1 hn.2.2 hxl hyl hzl hl hl2 hxy hxz hyz h1 h2) rfl) fun D σ H hlen h => ?_
  have h3 := tP_len (par_reads hlen (fun q hq => by
    rcases List.mem_cons.mp hq with z | z
    · rw [z]; exact (List.getElem?_eq_some_iff.mp hi).1
    · rcases List.mem_cons.mp z with z | z
      · rw [z]; exact (List.getElem?_eq_some_iff.mp hj).1
      · rw [List.mem_singleton.mp z]; exact (List.getElem?_eq_some_iff.mp hk3).1) h)
  refine tP_imp h3 fun vs H ⟨hv, hq⟩ => ?_
  rw [chkPV_len hp] at hv
  match vs, hv, hq with
  | [v, w, u], _, hq => exact ⟨v, w, u, rfl, hq⟩
theorem s_put {o k e : CE} {x y v : Expr} {p p2 : Pos} (ok : XOk G gx cl n c X W) (ho : chkE c o x = true) (hk : chkE c k y = true) (nk : isBrw k = false) (he : chkE c e v = true) (ne : isBrw e = false) (hs : plainSub y = true) :
    PS X (.Assign [.Subscript x y p] v p2) (tS G gx cl W X.N.length F (.put o k e)) :=
  PS.weak (ps_asg (soE e ok he) (pg_sub (soE o ok ho) (soE k ok hk) set_list (by intro u; cases y <;> first | rfl | cases hs)) (by cases v <;> rfl) (by cases v <;> rfl) rfl) fun D σ H hlen ⟨ow, s, SR, h⟩ => by
    unfold evS at h
    refine ⟨ow, s, SR, h.step fun u s1 ow1 H1 w e1 S1 r1 h1 => ⟨ow1, s1, S1, h1.step fun x s2 ow2 H2 o' e2 S2 r2 h2 => ⟨ow2, s2, S2, h2.step fun i s3 ow3 H3 j e3 S3 r3 h3 => ?_⟩⟩⟩
    split at h3
    · rename_i xs j' ex
      obtain ⟨a, vs, ha, hp, rr, put⟩ := lsAt_rep S3 (r2.ext e3) ex
      cases r3.rep nk
      cases hm : L2.ixN xs.length j' with
      | none => rw [hm] at h3; exact h3.elim
      | some m =>
        rw [hm] at h3
        have rv := ((r1.rep ne).ext e2).ext e3
        obtain ⟨e4, S4⟩ := put (xs.set m u) (vs.set m w) fun H' e => (rr.ext e).set (rv.ext e) m
        exact ⟨a, vs, j', m, ha, rfl, hp, by rw [← rr.length]; exact hm, h3 ow3 _ σ e4 S4 hlen⟩
    · exact h3.elim
theorem s_exp {e : CE} {v : Expr} {p : Pos} (ok : XOk G gx cl n c X W) (he : chkE c e v = true) (hl : isLcx v = false) : PS X (.Expr v p) (tS G gx cl W X.N.length F (.exp e)) :=
  PS.weak (ps_expr (soE e ok he) (lcx_sw hl)) fun D σ H hlen ⟨ow, s, SR, h⟩ => by
    unfold evS at h
    exact ⟨ow, s, SR, h.step fun u s1 ow1 H1 w e1 S1 r1 h1 => h1 ow1 H1 σ (.refl _ _) S1 hlen⟩
theorem s_ret {e : CE} {v : Expr} {p : Pos} (ok : XOk G gx cl n c X W) (he : chkE c e v = true) (ne : isBrw e = false) : PS X (.Return (some v) p) (tS G gx cl W X.N.length F (.ret e)) :=
  PS.weak (ps_ret (soE e ok he)) fun D σ H hlen ⟨ow, s, SR, h⟩ => by
    unfold evS at h
    exact ⟨ow, s, SR, h.step fun u s1 ow1 H1 w e1 S1 r1 h1 => h1 ow1 H1 σ w (.refl _ _) S1 (r1.rep ne)⟩
theorem s_retN {p : Pos} : PS X (.Return none p) (tS G gx cl W X.N.length F .retN) :=
  PS.weak ps_retN fun D σ H hlen ⟨ow, s, SR, h⟩ => by
    unfold evS at h
    exact h ow H σ .non (.refl _ _) SR .non
theorem s_if {t : CT} {a b : CSs} {v : Expr} {p q : List Stmt} {pos : Pos} (ok : XOk G gx cl n c X W) (ht : chkT c t v = true) (ha : PSs X p (tSs G gx cl W X.N.length F a)) (hb : PSs X q (tSs G gx cl W X.N.length F b)) : PS X (.If v p q pos) (tS G gx cl W X.N.length F (.ife t a b)) :=
  PS.weak (ps_if (soT t ok ht) ha hb) fun D σ H hlen ⟨ow, s, SR, h⟩ => by
    unfold evS at h
    refine ⟨ow, s, SR, h.step fun k s1 ow1 H1 j e1 S1 r1 h1 => ?_⟩
    cases r1
    cases k with
    | true => exact ⟨ow1, s1, S1, h1⟩
    | false => exact ⟨ow1, s1, S1, h1⟩
theorem s_whl {t : CT} {b : CSs} {v : Expr} {p : List Stmt} {pos : Pos} (ok : XOk G gx cl n c X W) (hp : PassesOwn (model X.prog X.w) X.A X.env X.xe) (ht : chkT c t v = true) (hb : PSs X p (tSs G gx cl W X.N.length F b)) : PS X (.While v p [] pos) (tS G gx cl W X.N.length F (.whl t b)) :=
  PS.weak (ps_while hp (soT t ok ht) hb) fun D σ H hlen ⟨ow, s, SR, h⟩ => by
    unfold evS at h
    refine ⟨fun m σ H => σ.length = X.N.length ∧ ∃ ow s, SRel G ow H s σ ∧ PoS G gx W X.N.length D ow H (loopW (evT cl t) (evSs cl F b) m s), ⟨F, hlen, ow, s, SR, h⟩, fun m σ H ⟨hl, ow, s, SR, h⟩ => ?_⟩
    cases m with
    | zero => exact h.elim
    | succ m =>
      have h : PoS G gx W X.N.length D ow H ((evT cl t s).bind fun k s1 => if k then (evSs cl F b s1).bind fun fl s2 => match fl with
        | .nx => loopW (evT cl t) (evSs cl F b) m s2
        | .ct => loopW (evT cl t) (evSs cl F b) m s2
        | .bk => .ok .nx s2
        | .rt v => .ok (.rt v) s2
        else .ok .nx s1) := h
      refine ⟨ow, s, SR, h.step fun k s1 ow1 H1 j e1 S1 r1 h1 => ?_⟩
      cases r1
      cases k with
      | false => exact h1 ow1 H1 σ (.refl _ _) S1 hl
      | true =>
        refine ⟨fun σ' H' => σ'.length = X.N.length ∧ ∃ ow s, SRel G ow H' s σ' ∧ PoS G gx W X.N.length D ow H' (loopW (evT cl t) (evSs cl F b) m s), fun σ' H' w => ⟨m, Nat.lt_succ_self m, w⟩, ow1, s1, S1, ?_⟩
        have h1 : PoS G gx W X.N.length D ow1 H1 ((evSs cl F b s1).bind fun fl s2 => match fl with
          | .nx => loopW (evT cl t) (evSs cl F b) m s2
          | .ct => loopW (evT cl t) (evSs cl F b) m s2
          | .bk => .ok .nx s2
          | .rt v => .ok (.rt v) s2) := h1
        generalize evSs cl F b s1 = r at h1 ⊢
        match r, h1 with
        | .ok .nx s2, h1 => exact fun ow2 H2 σ2 e2 S2 l2 => ⟨l2, ow2, s2, S2, PoS.ext h1 e2⟩
        | .ok .ct s2, h1 => exact fun ow2 H2 σ2 e2 S2 l2 => ⟨l2, ow2, s2, S2, PoS.ext h1 e2⟩
        | .ok .bk s2, h1 => exact h1
        | .ok (.rt v) s2, h1 => exact h1
        | .exc x s2, h1 => exact h1
        | .bad, h1 => exact h1
theorem s_for {tg : TG} {it : CI} {b : CSs} {t i : Expr} {p : List Stmt} {pos : Pos} (ok : XOk G gx cl n c X W) (hp : PassesOwn (model X.prog X.w) X.A X.env X.xe) (hS : isS tg = true) (htg : chkTG c tg [t] = true) (hi : chkI c it i = true) (hs : isSet i = false) (hb : PSs X p (tSs G gx cl W X.N.length F b)) :
    PS X (.For t i p [] pos) (tS G gx cl W X.N.length F (.loop tg it b)) :=
  PS.weak (ps_for hp ok.cm (soI it ok hi) (pg_of ok hS htg) hb (fold_ok hs)) fun D σ H hlen ⟨ow, s, SR, h⟩ => by
    unfold evS at h
    refine ⟨ow, s, SR, h.step fun xs s1 ow1 H1 J e1 S1 r1 h1 => ?_⟩
    generalize hf : (fun (x : IV) (s2 : S) => match asgT tg [x] s2.r with
      | some r => evSs cl F b ⟨r, s2.h⟩
      | none => R.bad) = f at h1
    have hfx : ∀ x s2, f x s2 = match asgT tg [x] s2.r with
      | some r => evSs cl F b ⟨r, s2.h⟩
      | none => R.bad := fun x s2 => by rw [← hf]
    refine ⟨fun j m σ H => m + j = xs.length ∧ σ.length = X.N.length ∧ ∃ ow s, Ext ow1 H1 ow H ∧ SRel G ow H s σ ∧ PoS G gx W X.N.length D ow H (loopF f (xs.drop j) s), ⟨xs.length, rfl, hlen, ow1, s1, .refl _ _, S1, h1⟩, fun j m σ2 H2 ⟨hm, hl, ow2, s2, e2, S2, h2⟩ => ?_⟩
    have ij := r1 j ow2 H2 e2
    cases hx : xs[j]? with
    | none =>
      have hj : xs.length ≤ j := List.getElem?_eq_none_iff.mp hx
      rw [List.drop_eq_nil_of_le hj] at h2
      exact .inl ⟨ij.1 hx, h2 ow2 H2 σ2 (.refl _ _) S2 hl⟩
    | some y =>
      have hlt := (List.getElem?_eq_some_iff.mp hx).1
      obtain ⟨go, yl⟩ := ij.2 y hx
      have hdrop : xs.drop j = y :: xs.drop (j + 1) := by
        rw [List.drop_eq_getElem_cons hlt, (List.getElem?_eq_some_iff.mp hx).2]
      rw [hdrop] at h2
      refine .inr ⟨go, fun σ' H' => σ'.length = X.N.length ∧ ∃ ow s, Ext ow1 H1 ow H' ∧ SRel G ow H' s σ' ∧ PoS G gx W X.N.length D ow H' (loopF f (xs.drop (j + 1)) s), fun σ' H' w => ⟨xs.length - (j + 1), by omega, by omega, w⟩, fun v H3 hy => ?_⟩
      obtain ⟨gr, rv⟩ := yl v H3 hy
      have e3 := gr.ext S2.hr
      have S3 := gr.srel S2
      have rv := rv fun p hp => S2.hr.fresh hp
      have h3 : PoS G gx W X.N.length D ow2 H2 ((f y s2).bind fun fl s1 => match fl with
        | .nx => loopF f (xs.drop (j + 1)) s1
        | .ct => loopF f (xs.drop (j + 1)) s1
        | .bk => .ok .nx s1
        | .rt v => .ok (.rt v) s1) := h2
      rw [hfx] at h3
      cases ha : asgT tg [y] s2.r with
      | none => rw [ha] at h3; exact h3.elim
      | some r' =>
        rw [ha] at h3
        have h3 := PoS.ext h3 e3
        refine ⟨ow2, s2, y, r', S3, hl, rv, ha, fun σ3 o3 S4 => ⟨ow2, _, S4, ?_⟩⟩
        have h3 : PoS G gx W X.N.length D ow2 H3 ((evSs cl F b ⟨r', s2.h⟩).bind fun fl s1 => match fl with
          | .nx => loopF f (xs.drop (j + 1)) s1
          | .ct => loopF f (xs.drop (j + 1)) s1
          | .bk => .ok .nx s1
          | .rt v => .ok (.rt v) s1) := h3
        have e23 := e2.trans e3
        generalize evSs cl F b ⟨r', s2.h⟩ = r at h3 ⊢
        match r, h3 with
        | .ok .nx s4, h3 => exact fun ow4 H4 σ4 e4 S5 l4 => ⟨l4, ow4, s4, e23.trans e4, S5, PoS.ext h3 e4⟩
        | .ok .ct s4, h3 => exact fun ow4 H4 σ4 e4 S5 l4 => ⟨l4, ow4, s4, e23.trans e4, S5, PoS.ext h3 e4⟩
        | .ok .bk s4, h3 => exact h3
        | .ok (.rt v) s4, h3 => exact h3
        | .exc x s4, h3 => exact h3
        | .bad, h3 => exact h3
theorem s_nx {st : Stmt} (h : PS X st tNext) : PS X st (tS G gx cl W X.N.length F .pss) := PS.weak h fun D σ H hlen ⟨ow, s, SR, h⟩ => by
  unfold evS at h
  exact h ow H σ (.refl _ _) SR hlen
theorem s_brk {p : Pos} : PS X (.Break p) (tS G gx cl W X.N.length F .brk) := PS.weak ps_break fun D σ H hlen ⟨ow, s, SR, h⟩ => by
  unfold evS at h
  exact h ow H σ (.refl _ _) SR hlen
theorem s_cnt {p : Pos} : PS X (.Continue p) (tS G gx cl W X.N.length F .cnt) := PS.weak ps_continue fun D σ H hlen ⟨ow, s, SR, h⟩ => by
  unfold evS at h
  exact h ow H σ (.refl _ _) SR hlen
theorem s_nvr {st : Stmt} : PS X st (tS G gx cl W X.N.length F .nvr) := PS.weak ps_never fun D σ H hlen ⟨ow, s, SR, h⟩ => by
  unfold evS at h
  exact h
mutual
theorem soS (ok : XOk G gx cl n c X W) (hp : PassesOwn (model X.prog X.w) X.A X.env X.xe) : ∀ (a : CS) {st : Stmt}, chkS c a st = true → PS X st (tS G gx cl W X.N.length F a)
  | .asg tg e, st, h => by
    unfold chkS at h
    split at h <;> first
      | (cases h; done)
      | (rename_i heq; cases heq)
    all_goals first
      | (simp only [Bool.and_eq_true, Bool.or_eq_true, Bool.not_eq_true'] at h
         obtain ⟨⟨⟨h1, h2⟩, h3⟩, h4⟩ := h
         exact s_asgN ok h1 h2 h3 (fun z => by rcases h4 with h4 | h4; · rw [h4] at z; cases z
                                               · exact h4))
      | (simp only [Bool.and_eq_true, Bool.or_eq_true, Bool.not_eq_true'] at h
         obtain ⟨⟨⟨⟨h1, h2⟩, h3⟩, h4⟩, h5⟩ := h
         exact s_asgT ok h1 h2 h3 h4 h5)
      | skip
  | .own i f, st, h => by
    unfold chkS at h
    split at h <;> first
      | (cases h; done)
      | (rename_i heq; cases heq)
    all_goals first
      | (simp only [Bool.and_eq_true, Bool.or_eq_true, Bool.not_eq_true', beq_eq_false_iff_ne, ne_eq] at h
         obtain ⟨⟨h1, h2⟩, h4⟩ := h
         exact s_own ok h1 h2 (fun z => h4.elim (fun q => by rw [q] at z; cases z) id))
      | skip
  | .par is ps, st, h => by
    unfold chkS at h
    split at h <;> first
      | (cases h; done)
      | (rename_i heq; cases heq)
    all_goals first
      | (simp only [Bool.and_eq_true, Bool.not_eq_true', beq_eq_false_iff_ne, ne_eq] at h
         obtain ⟨⟨⟨⟨⟨⟨⟨h1, h2⟩, h3⟩, h4⟩, h5⟩, h6⟩, h7⟩, h8⟩ := h
         exact s_par2 ok h1 h2 (eq_of_beq h3) h4 h5 h6 h7 h8)
      | (simp only [Bool.and_eq_true, Bool.not_eq_true', beq_eq_false_iff_ne, ne_eq] at h
         obtain ⟨⟨⟨⟨⟨⟨⟨⟨⟨⟨⟨⟨⟨h1, h2⟩, h3⟩, h4⟩, h5⟩, h6⟩, h7⟩, h8⟩, h9⟩, h10⟩, h11⟩, h12⟩, h13⟩, h14⟩ := h
         exact s_par3 ok h1 h2 h3 (eq_of_beq h4) (eq_of_beq h5) h6 h7 h8 h9 h10 h11 h12 h13 h14)
      | skip
  | .put o k e, st, h => by
    unfold chkS at h
    split at h <;> first
      | (cases h; done)
      | (rename_i heq; cases heq)
    all_goals first
      | (simp only [Bool.and_eq_true, Bool.or_eq_true, Bool.not_eq_true', beq_eq_false_iff_ne, ne_eq] at h
         obtain ⟨⟨⟨⟨⟨⟨h1, h2⟩, h3⟩, h4⟩, h5⟩, h6⟩, h7⟩ := h
         exact s_put ok h1 h2 h3 h4 h5 h6)
      | skip
  | .exp e, st, h => by
    unfold chkS at h
    split at h <;> first
      | (cases h; done)
      | (rename_i heq; cases heq)
    all_goals first
      | (simp only [Bool.and_eq_true, Bool.or_eq_true, Bool.not_eq_true', beq_eq_false_iff_ne, ne_eq] at h
         exact s_exp ok h.1 h.2)
      | skip
  | .ret e, st, h => by
    unfold chkS at h
    split at h <;> first
      | (cases h; done)
      | (rename_i heq; cases heq)
    all_goals first
      | (simp only [Bool.and_eq_true, Bool.or_eq_true, Bool.not_eq_true', beq_eq_false_iff_ne, ne_eq] at h
         exact s_ret ok h.1 h.2)
      | skip
  | .retN, st, h => by
    unfold chkS at h
    split at h <;> first
      | (cases h; done)
      | (rename_i heq; cases heq)
      | skip
    all_goals first
      | exact s_retN
      | skip
  | .ife t a b, st, h => by
    cases st with
    | If v p q pos =>
      unfold chkS at h
      simp only [Bool.and_eq_true] at h
      exact s_if ok h.1.1 (soSs ok hp a h.1.2) (soSs ok hp b h.2)
    | _ => simp [chkS] at h
  | .whl t b, st, h => by
    cases st with
    | While v p q pos =>
      cases q with
      | nil =>
        unfold chkS at h
        simp only [Bool.and_eq_true] at h
        exact s_whl ok hp h.1 (soSs ok hp b h.2)
      | cons _ _ => simp [chkS] at h
    | _ => simp [chkS] at h
  | .loop tg it b, st, h => by
    cases st with
    | For t i p q pos =>
      cases q with
      | nil =>
        unfold chkS at h
        simp only [Bool.and_eq_true, Bool.not_eq_true'] at h
        exact s_for ok hp h.1.1.1.1 h.1.1.1.2 h.1.1.2 h.1.2 (soSs ok hp b h.2)
      | cons _ _ => simp [chkS] at h
    | _ => simp [chkS] at h
  | .brk, st, h => by
    cases st with
    | Break p => exact s_brk
    | _ => simp [chkS] at h
  | .cnt, st, h => by
    cases st with
    | Continue p => exact s_cnt
    | _ => simp [chkS] at h
  | .pss, st, h => by
    cases st with
    | Pass p => exact s_nx ps_pass
    | Expr v p =>
      cases v with
      | Constant k j q =>
        cases k with
        | str x => exact s_nx ps_doc
        | _ => simp [chkS] at h
      | _ => simp [chkS] at h
    | _ => simp [chkS] at h
  | .nvr, st, h => s_nvr
theorem soSs (ok : XOk G gx cl n c X W) (hp : PassesOwn (model X.prog X.w) X.A X.env X.xe) : ∀ (l : CSs) {sts : List Stmt}, chkSs c l sts = true → PSs X sts (tSs G gx cl W X.N.length F l)
  | .nil, [], _ => s_nil
  | .cons a l, st :: sts, h => by
    unfold chkSs at h
    rw [Bool.and_eq_true] at h
    exact s_cons (soS ok hp a h.1) (soSs ok hp l h.2)
  | .nil, _ :: _, h => by simp [chkSs] at h
  | .cons _ _, [], h => by simp [chkSs] at h
end
end
end Mi

/-! Mi: defs; the law's end -/
namespace Mi
open PySem L2 PyProof.Rows

/-- a def: how many parameters, the slots, the body -/
structure FD where
  np : Nat
  ns : Nat
  body : CSs
def startR (ns : Nat) (args : List IV) : Rho := args.map (fun x => some (.v x)) ++ List.replicate (ns - args.length) none
def toRc : R Fl → Rc
  | .ok (.rt v) s => .ok v s.h
  | .ok .nx s => .ok .non s.h
  | .ok .bk _ => .bad
  | .ok .ct _ => .bad
  | .exc e s => .exc e s.h
  | .bad => .bad
/-- the program, by depth -/
def runF (pg : Nat → Option FD) (F : Nat) : Nat → Nat → List IV → Sto → Rc
  | 0, _, _, _ => .bad
  | n + 1, f, args, h => match pg f with
    | none => .bad
    | some d => toRc (evSs (runF pg F n) F d.body ⟨startR d.ns args, h⟩)

section
variable {G : Gd} {gx : Gx} {P : Program} {w : World} {K : PySem.W.Frag} {mg : Str → Option Value} {base : Heap}
theorem start_rel {N : List Str} {ow : Ow} {H : Hp} {h : Sto} {args : List IV} {vs : List V} (hr : HRel G ow H h) (ra : RepVs G ow H args vs) : SRel G ow H ⟨startR N.length args, h⟩ (L2.start N vs) := by
  refine ⟨hr, fun i sv hi => ?_⟩
  unfold startR at hi
  unfold L2.start
  rcases Nat.lt_or_ge i args.length with q | q
  · rw [List.getElem?_append_left (by rw [List.length_map]; exact q), List.getElem?_map] at hi
    cases hx : args[i]? with
    | none => rw [hx] at hi; cases hi
    | some x =>
      rw [hx] at hi; cases hi
      obtain ⟨v, h1, h2⟩ := ra.get hx
      refine ⟨v, ?_, .v h2⟩
      rw [List.getElem?_append_left (by rw [List.length_map, ← ra.length]; exact q), List.getElem?_map, h1]
      rfl
  · rw [List.getElem?_append_right (by rw [List.length_map]; exact q)] at hi
    have := List.mem_of_getElem? hi
    rw [List.mem_replicate] at this
    cases this.2
/-- a def keeps its promise -/
theorem fn_so {pg : Nat → Option FD} {F n i : Nat} {d : FD} {gt : GT} {N ps : List Str} {nm qual : Str} {st : Stmt} {f : Addr} {fd : FuncData} (hK : K = G.K) (Fn : Fun K nm qual st f fd) (S : FnScope N ps (defScope st)) (hpg : pg i = some d) (hns : d.ns = N.length)
    (hgl : GOk G gx (runF pg F n) gt n P w K mg base) (hchk : chkSs ⟨gt, N, defScope st, fun _ => true⟩ d.body (defBody st) = true) : FnG P w K mg base (n + 1) f fd ps (spF G gx ps.length (runF pg F (n + 1) i)) := by
  refine fn_ofG Fn S (fun vs H Q E h => h.1) fun cdv A outer s H vs Q E hrm hgd ⟨hl, ow, h, args, hr, hsl, ra, hp⟩ => ?_
  have ok : XOk G gx (runF pg F n) n ⟨gt, N, defScope st, fun _ => true⟩ (cxOf (L2.CX P w) P w K mg base N qual (defScope st) f cdv A outer s H E) (fun a d _ H => E a d H) := {
    hK := hK
    nd := S.nd
    cm := rfl
    rm := hrm
    gd := hgd
    ps := passAt (takes_of (E := E) rfl rfl rfl rfl)
    hN := rfl
    hS := rfl
    cf := fun _ _ => rfl
    gl := hgl }
  refine ⟨_, soSs (F := F) ok (passes_of rfl) d.body hchk, ow, ⟨startR N.length args, h⟩, start_rel hr ra, ?_⟩
  have hp : PoC G gx Q E ow H (toRc (evSs (runF pg F n) F d.body ⟨startR N.length args, h⟩)) := by
    have e : runF pg F (n + 1) i args h = toRc (evSs (runF pg F n) F d.body ⟨startR N.length args, h⟩) := by
      show (match pg i with | none => Rc.bad | some d => toRc (evSs (runF pg F n) F d.body ⟨startR d.ns args, h⟩)) = _
      rw [hpg]
      show toRc (evSs (runF pg F n) F d.body ⟨startR d.ns args, h⟩) = _
      rw [hns]
    rw [← e]; exact hp
  generalize evSs (runF pg F n) F d.body ⟨startR N.length args, h⟩ = r at hp ⊢
  match r, hp with
  | .ok .nx s1, hp => exact fun ow' H' σ' e1 S1 l1 => hp ow' H' .non e1 S1.hr .non
  | .ok .bk s1, hp => exact hp.elim
  | .ok .ct s1, hp => exact hp.elim
  | .ok (.rt v) s1, hp => exact fun ow' H' σ' x e1 S1 r1 => hp ow' H' x e1 S1.hr r1
  | .exc e s1, hp => exact fun ow' H' σ' a d e1 S1 r1 => hp ow' H' a d e1 S1.hr r1
  | .bad, hp => exact hp.elim
/-- nobody calls at depth 0 -/
theorem fn_zero {pg : Nat → Option FD} {F i : Nat} {ps : List Str} {f : Addr} {fd : FuncData} : FnG P w K mg base 0 f fd ps (spF G gx ps.length (runF pg F 0 i)) :=
  ⟨fun vs H Q E h => h.1, fun A outer s H args us vs Q E _ _ _ _ _ ⟨_, ow, h, as, _, _, _, hp⟩ => hp.elim⟩

/-- a def of the text, and what is written for it -/
structure FW (K : PySem.W.Frag) (mg : Str → Option Value) (gt : GT) (x : Str) (i : Nat) (d : FD) : Prop where
  ex : ∃ (f : Addr) (fd : FuncData) (nm qual : Str) (st : Stmt) (N ps : List Str), mg x = some (.ref f) ∧ PySem.W.keepIn K (.ref f) = true ∧ (∀ us : List Value, us.length = ps.length → bindArgs fd ⟨us, []⟩ = pure (ps.zip us)) ∧ Fun K nm qual st f fd ∧ FnScope N ps (defScope st) ∧ d.ns = N.length ∧ ps.length = gt.ar i ∧
    chkSs ⟨gt, N, defScope st, fun _ => true⟩ d.body (defBody st) = true
theorem g_ok {pg : Nat → Option FD} {F : Nat} {gt : GT} (hK : K = G.K) (hf : ∀ x i, gt.fn.lookup x = some i → ∃ d, pg i = some d ∧ FW K mg gt x i d)
    (hb : ∀ x, gt.bl.contains x = true → (x == ("gcd" : Str)) = false → mg x = none) (hg : gt.bl.contains ("gcd" : Str) = true → mg ("gcd" : Str) = some (.builtin "math.gcd"))
    (hv : ∀ x v, gt.val.lookup x = some v → ∃ u v', mg x = some u ∧ L2.RelV v' u ∧ ∀ ow H, RepV G ow H v v') : ∀ n, GOk G gx (runF pg F n) gt n P w K mg base
  | 0 => ⟨fun x i hx => by
      obtain ⟨d, h1, ⟨f, fd, nm, qual, st, N, ps, e1, e2, e3, e4, e5, e6, e7, e8⟩⟩ := hf x i hx
      exact ⟨f, fd, ps, e1, e2, .all e3, fn_zero, e7⟩, hb, hg, hv⟩
  | n + 1 => ⟨fun x i hx => by
      obtain ⟨d, h1, ⟨f, fd, nm, qual, st, N, ps, e1, e2, e3, e4, e5, e6, e7, e8⟩⟩ := hf x i hx
      exact ⟨f, fd, ps, e1, e2, .all e3, fn_so hK e4 e5 h1 e6 (g_ok hK hf hb hg hv n) e8, e7⟩, hb, hg, hv⟩
end

/-! ### the law's end -/
/-- the promise at the caller, over a heap in which at most the script is known -/
theorem end_core {P : Program} {w : World} {K : PySem.W.Frag} {mg mb : Str → Option Value} {k : Nat} {fa a : Addr} {fd : FuncData} {x : Str} {sp : Sp} {t : Shared} {vs : List Value} {H : Hp}
    (kin : K.In t.heap) (nsg : t.heap.Ns mainGlobals mg) (nsb : t.heap.Ns builtinsNs mb) (boot : ∀ x : Str, x ≠ "__name__" → mb x = bootBuiltins x) (nolim : t.heap.NoLimit) (gens : t.gens = #[])
    (scr : t.heap.get? a = some { cls := .type "list", data := .seq vs.toArray }) (room : Room k callerA)
    (prom : ∀ base : Heap, K.In base → base.Ns mainGlobals mg → FnG P w K mg base k fa fd [x] sp) (bind : ∀ (s : Shared) (u : Value), BindsTo s fd ⟨[u], []⟩ [(x, u)])
    (only : L2.Only H) (want : sp [.ref a] H (fun v _ => v = .bl true) fun _ _ _ => False) (hok : HOk P w H t.heap) (nota : ∀ b, b ≠ a → H b = none) (apart : H a = none ∨ K.lookup a = none) :
    codeAny (model P w) callerA (.call (.ref fa) ⟨[.ref a], []⟩) (fun r s' => r = .ok (.ret (.bool true)) ∧ OldK t.heap s'.heap ∧ s'.os = t.os ∧ AllBare s'.gens) t := by
  have hid : ∀ b o, t.heap.get? b = some o → H b = none → (hidT t.heap H).get? b = some o := fun b o e n => hidT_get e n
  -- what is no list stays
  have dct : ∀ b o es ep, t.heap.get? b = some o → o.data = .dict es ep → H b = none := fun b o es ep e d => by
    by_cases q : b = a
    · subst q
      rw [scr] at e
      cases e
      exact (nomatch (show Data.seq vs.toArray _ = Data.dict es ep from d))
    · exact nota b q
  have nss : ∀ b m, t.heap.Ns b m → (hidT t.heap H).Ns b m := fun b m ⟨o, es, ep, e, d, r⟩ => ⟨o, es, ep, hid b o e (dct b o es ep e d), d, r⟩
  have kin' : K.In (hidT t.heap H) := fun b o e => hid b o (kin b o e) (by
    by_cases q : b = a
    · subst q
      exact apart.elim id fun z => by rw [z] at e; cases e
    · exact nota b q)
  have md : Mod K mg (hidT t.heap H) := { kin := kin', glob := nss _ _ nsg, blt := ⟨mb, nss _ _ nsb, boot⟩, nolimit := nolim.elim fun mc h => ⟨mc, nss _ _ h.1, h.2⟩ }
  have en : Env0 P w K mg (hidT t.heap H) callerA [] t H := ⟨rfl, md, fun _ _ e => of_hidT e, Nat.le_of_eq (hidT_size _ _), trivial, fun _ hb => (List.not_mem_nil hb).elim, hok, .of_eq gens⟩
  have run := (prom _ kin' (nss _ _ nsg)).run callerA [] t H ⟨[.ref a], []⟩ [.ref a] [.ref a] _ _ room rfl en (bind t (.ref a)) (.cons rfl .nil) want
  refine codeAny_mono run fun r s' q => ?_
  match r, q with
  | .error e, ⟨_, _, _, _, _, _, _, _, _, _, _, _, no⟩ => exact no.elim
  | .ok .next, q => exact False.elim q
  | .ok .brk, q => exact False.elim q
  | .ok .cont, q => exact False.elim q
  | .ok (.ret u), ⟨v, H', os, bare, un, hok', rv, hv⟩ =>
    have hv : v = .bl true := hv
    subst hv
    cases (show u = Value.bool true from rv)
    refine ⟨rfl, OldK.of_keep fun b o e => ?_, os, bare⟩
    rcases only b with n | ⟨ob, xs, z⟩
    · exact un.keep b o e n (fun z => List.not_mem_nil z) List.not_mem_nil
    · have g1 := (hok b _ z).1
      have g2 := (hok' b _ (un.frzs b ob _ z)).1
      rw [e] at g1
      cases g1
      exact g2
theorem law_callG {P : Program} {w : World} {K : PySem.W.Frag} {mg mb : Str → Option Value} {k : Nat} {fa a : Addr} {fd : FuncData} {x : Str} {sp : Sp} {t : Shared} {vs : List Value} {ns : List Int}
    (kin : K.In t.heap) (nsg : t.heap.Ns mainGlobals mg) (nsb : t.heap.Ns builtinsNs mb) (boot : ∀ x : Str, x ≠ "__name__" → mb x = bootBuiltins x) (nolim : t.heap.NoLimit) (gens : t.gens = #[])
    (scr : t.heap.get? a = some { cls := .type "list", data := .seq vs.toArray }) (inz : IntsAre vs ns) (len : ns.length ≤ sizeLine) (room : Room k callerA)
    (prom : ∀ base : Heap, K.In base → base.Ns mainGlobals mg → FnG P w K mg base k fa fd [x] sp) (bind : ∀ (s : Shared) (u : Value), BindsTo s fd ⟨[u], []⟩ [(x, u)])
    (want : ∀ H : Hp, L2.Only H → SqL K H a (ns.map V.int) → sp [.ref a] H (fun v _ => v = .bl true) fun _ _ _ => False) :
    codeAny (model P w) callerA (.call (.ref fa) ⟨[.ref a], []⟩) (fun r s' => r = .ok (.ret (.bool true)) ∧ OldK t.heap s'.heap ∧ s'.os = t.os ∧ AllBare s'.gens) t := by
  have rv := vals_ints inz
  have ln := inz.length
  cases hk : K.lookup a with
  | some o =>
    have e := kin a o hk
    rw [scr] at e
    cases e
    have sq : SqL K (fun _ => none) a (ns.map V.int) := .inr ⟨_, vs.toArray, _, hk, rfl, rfl, rfl, by rw [List.size_toArray, ln]; exact len, by simpa using rv⟩
    have no : L2.Only fun _ => none := fun _ => .inl rfl
    exact end_core kin nsg nsb boot nolim gens scr room prom bind no (want _ no sq) (fun _ u z => (nomatch (show (none : Option HO) = some u from z))) (fun _ _ => rfl) (.inl rfl)
  | none =>
    generalize hH : (fun b => if b = a then some (HO.frz { cls := .type "list", data := .seq vs.toArray } (.lst (ns.map V.int))) else none : Hp) = H
    have at_a : H a = some (.frz { cls := .type "list", data := .seq vs.toArray } (.lst (ns.map V.int))) := by rw [← hH]; exact if_pos rfl
    have off : ∀ b, b ≠ a → H b = none := fun b q => by rw [← hH]; exact if_neg q
    have only : L2.Only H := fun b => by
      by_cases q : b = a
      · subst q; exact .inr ⟨_, _, at_a⟩
      · exact .inl (off b q)
    refine end_core kin nsg nsb boot nolim gens scr room prom bind only (want H only (.inl (.inr ⟨_, at_a⟩))) (fun b u z => ?_) off (.inr hk)
    by_cases q : b = a
    · subst q
      rw [at_a] at z
      cases z
      exact ⟨scr, by rw [List.length_map]; exact len, vs, _, rv, scr⟩
    · rw [off b q] at z; cases z
theorem reps_ints {G : Gd} {ow : Ow} {H : Hp} : ∀ {ns : List Int}, RepVs G ow H (ns.map IV.int) (ns.map V.int)
  | [] => .nil
  | _ :: _ => .cons (.int _) reps_ints
/-- the script is known -/
theorem law_want {G : Gd} {gx : Gx} {pg : Nat → Option FD} {F n i : Nat} {H : Hp} {a : Addr} {ns : List Int} (only : L2.Only H) (sq : SqL G.K H a (ns.map V.int)) (h : ∃ st, runF pg F n i [.scr (ns.map IV.int)] [] = .ok (.bl true) st) :
    spF G gx 1 (runF pg F n i) [.ref a] H (fun v _ => v = .bl true) fun _ _ _ => False := by
  obtain ⟨st, h⟩ := h
  have reps : RepVs G (fun _ => none) H (ns.map IV.int) (ns.map V.int) := reps_ints
  have sc : ScrAt G (fun _ => none) H a (ns.map V.int) := by
    rcases sq with sq | sq
    · exact .inl ⟨sq, rfl⟩
    · exact .inr (.inr sq)
  refine ⟨rfl, fun _ => none, [], [.scr (ns.map IV.int)], ⟨fun _ _ z => (nomatch z), fun _ _ z => by simp at z, fun _ _ _ z => (nomatch z), fun _ _ z => (nomatch z)⟩, fun _ _ z => (nomatch z), .cons (.scr sc reps) .nil, ?_⟩
  rw [h]
  intro ow' H' x e hr r
  cases r
  rfl
end Mi

/-! Mi: the walk; what the top has written -/
namespace Mi
open PySem L2 PyProof.Rows

theorem walkG {l : PySem.W.OpenLaw} {n k : Nat} {q : Program} {loose : List Str} {XP : (Str → Option Value) → Heap → Prop} {YP : World → Heap → Prop} {d : DefRec} {K : Params → PySem.W.Frag}
    (hn : l.most = some n) (hn2 : n ≤ sizeLine) (hdf : d.params.defaults = []) (hr : Room k callerA) (hY : ∀ (w : World) (h : Heap), YP w h → (K w.params).In h)
    (F : ∀ (w : World) (mg : Str → Option Value) (fa : Addr) (h : Heap), (K w.params).In h → h.Ns mainGlobals mg → XP mg h → mg d.name = some (.ref fa) → ∃ (x : Str) (fd : FuncData) (sp : Sp),
      (∀ (s : Shared) (u : Value), BindsTo s fd ⟨[u], []⟩ [(x, u)]) ∧ (∀ base : Heap, (K w.params).In base → base.Ns mainGlobals mg → FnG l.prog w (K w.params) mg base k fa fd [x] sp) ∧
        ∀ (H : Hp) (a : Addr) (ns : List Int), ns.length ≤ n → L2.Only H → SqL (K w.params) H a (ns.map V.int) → sp [.ref a] H (fun v _ => v = .bl true) fun _ _ _ => False) :
    PySem.W.WalkO q loose XP YP l.row.toRowW d [] (fun f vs => PySem.call f vs) :=
  Att.attach_call hn hdf fun w _ s₁ mg _ fa _ _ _ _ a _ ns G Y _ _ _ hmg hobj hints hlen hg =>
    let kin := hY w _ Y
    let ⟨_, _, _, hb, hF, hw⟩ := F w mg fa _ kin G.T.g G.X hmg
    law_callG kin G.T.g G.T.b G.T.builtins G.T.nolimit hg hobj hints (Nat.le_trans hlen hn2) hr hF hb fun H hO hS => hw H a ns hlen hO hS

/-! ### defs -/
def fnScB (N ps : List Str) (sc : Scope) : Bool :=
  (match sc.kind with | .function => true | _ => false) && !sc.isCoroutine && !sc.isGenerator && decide N.Nodup && N.take ps.length == ps &&
    ps.all (fun x => match sc.names.lookup x with | some .local => true | some .cell => true | _ => false) && sc.names.all (fun y => match y.2 with | .free => false | _ => true)
theorem fnSc_of {N ps : List Str} {sc : Scope} (h : fnScB N ps sc = true) : FnScope N ps sc := by
  unfold fnScB at h
  simp only [Bool.and_eq_true, Bool.not_eq_true', decide_eq_true_eq, List.all_eq_true] at h
  obtain ⟨⟨⟨⟨⟨⟨h1, h2⟩, h3⟩, h4⟩, h5⟩, h6⟩, h7⟩ := h
  refine ⟨?_, h2, h3, h4, eq_of_beq h5, fun x hx => ?_, fun y hy e => ?_⟩
  · split at h1
    · assumption
    · cases h1
  · have := h6 x hx
    split at this
    · exact .inl (by assumption)
    · exact .inr (by assumption)
    · cases this
  · have := h7 y hy
    rw [e] at this
    cases this
theorem fw_mk {K : PySem.W.Frag} {h : Heap} {mg : Str → Option Value} {gt : GT} {x : Str} {i : Nat} {d : FD} {N ps : List Str} {st : Stmt} {f : Addr} {oc kV doc pm cdv ct : Value} {od an : Option Addr} {osl : Array (Option Value)} (KX : K.In h) (NS : h.Ns mainGlobals mg)
    (a : PySem.W.nsIn K mainGlobals x = some (some (.ref f))) (l : K.lookup f = some ⟨oc, od, .func (PySem.W.fnOf x x (defArgs st) (defBody st) (defScope st) .none kV doc pm an cdv ct), osl⟩) (c : PySem.W.codeIn K cdv x = true) (k : PySem.W.keepIn K (.ref f) = true)
    (S : fnScB N ps (defScope st) = true) (b : ∀ (kV doc pm : Value) (an : Option Addr) (cdv ct : Value) (us : List Value), us.length = ps.length → bindArgs (PySem.W.fnOf x x (defArgs st) (defBody st) (defScope st) .none kV doc pm an cdv ct) ⟨us, []⟩ = pure (ps.zip us))
    (h1 : d.ns = N.length) (h2 : ps.length = gt.ar i) (h3 : chkSs ⟨gt, N, defScope st, fun _ => true⟩ d.body (defBody st) = true) : FW K mg gt x i d :=
  ⟨f, _, x, x, st, N, ps, PySem.W.mg_of KX NS a, k, fun us hl => b _ _ _ _ _ _ us hl, fun_mk l c k, fnSc_of S, h1, h2, h3⟩
inductive FWs (K : PySem.W.Frag) (mg : Str → Option Value) (gt : GT) (pg : Nat → Option FD) : List (Str × Nat) → Prop
  | nil : FWs K mg gt pg []
  | cons {x : Str} {i : Nat} {d : FD} {r : List (Str × Nat)} (e : pg i = some d) (h : FW K mg gt x i d) (t : FWs K mg gt pg r) : FWs K mg gt pg ((x, i) :: r)
theorem FWs.get {K : PySem.W.Frag} {mg : Str → Option Value} {gt : GT} {pg : Nat → Option FD} {x : Str} {i : Nat} : ∀ {r : List (Str × Nat)}, FWs K mg gt pg r → r.lookup x = some i → ∃ d, pg i = some d ∧ FW K mg gt x i d
  | _, .nil, h => by simp at h
  | _, .cons (x := y) e hw t, h => by
    rw [List.lookup_cons] at h
    split at h
    · rename_i q
      cases h
      cases eq_of_beq q
      exact ⟨_, e, hw⟩
    · exact t.get h
/-! ### names of built-in things -/
inductive BLs (mg : Str → Option Value) : List Str → Prop
  | nil : BLs mg []
  | cons {x : Str} {r : List Str} (h : mg x = none) (t : BLs mg r) : BLs mg (x :: r)
  | gcd {r : List Str} (t : BLs mg r) : BLs mg (("gcd" : Str) :: r)
theorem BLs.get {mg : Str → Option Value} {x : Str} (hx : (x == ("gcd" : Str)) = false) : ∀ {r : List Str}, BLs mg r → r.contains x = true → mg x = none
  | _, .nil, h => by simp at h
  | _, .cons (x := y) e t, h => by
    rw [List.contains_cons, Bool.or_eq_true] at h
    rcases h with q | q
    · rw [eq_of_beq q]; exact e
    · exact t.get hx q
  | _, .gcd t, h => by
    rw [List.contains_cons, Bool.or_eq_true] at h
    rcases h with q | q
    · rw [hx] at q; cases q
    · exact t.get hx q
/-! ### constants -/
mutual
inductive KRep (K : PySem.W.Frag) : IV → Value → Prop
  | non : KRep K .non .none
  | bl {b : Bool} : KRep K (.bl b) (.bool b)
  | int {i : Int} {t : Tok} : KRep K (.int i) (.int i t)
  | str {x : Str} {t : Tok} : KRep K (.str x) (.str x t)
  | tup {a : Addr} {od : Option Addr} {us : List Value} {n : Nat} {sl : Array (Option Value)} {xs : List IV} (l : K.lookup a = some ⟨.type "tuple", od, .seq us.toArray n, sl⟩) (z : us.length ≤ sizeLine) (r : KReps K xs us) : KRep K (.tup xs) (.ref a)
inductive KReps (K : PySem.W.Frag) : List IV → List Value → Prop
  | nil : KReps K [] []
  | cons {x : IV} {u : Value} {xs : List IV} {us : List Value} (h : KRep K x u) (t : KReps K xs us) : KReps K (x :: xs) (u :: us)
end
mutual
theorem KRep.rep {G : Gd} : ∀ {x : IV} {u : Value}, KRep G.K x u → ∃ v, L2.RelV v u ∧ ∀ ow H, RepV G ow H x v
  | _, _, .non => ⟨.non, rfl, fun _ _ => .non⟩
  | _, _, .bl => ⟨.bl _, rfl, fun _ _ => .bl _⟩
  | _, _, .int (t := t) => ⟨.int _, ⟨t, rfl⟩, fun _ _ => .int _⟩
  | _, _, .str (t := t) => ⟨.str _, ⟨t, rfl⟩, fun _ _ => .str _⟩
  | _, _, .tup (a := a) (us := us) l z r => by
    obtain ⟨vs, h1, h2⟩ := KReps.rep r
    exact ⟨.ref a, rfl, fun ow H => .tup (.inr (.inr ⟨_, us.toArray, _, l, rfl, rfl, by simpa using z, by simpa using h1⟩)) (h2 ow H)⟩
theorem KReps.rep {G : Gd} : ∀ {xs : List IV} {us : List Value}, KReps G.K xs us → ∃ vs, L2.Vals vs us ∧ ∀ ow H, RepVs G ow H xs vs
  | _, _, .nil => ⟨[], .nil, fun _ _ => .nil⟩
  | _, _, .cons h t => by
    obtain ⟨v, h1, h2⟩ := KRep.rep h
    obtain ⟨vs, h3, h4⟩ := KReps.rep t
    exact ⟨v :: vs, .cons h1 h3, fun ow H => .cons (h2 ow H) (h4 ow H)⟩
end
/-- the constants that are read -/
inductive VLs (K : PySem.W.Frag) (mg : Str → Option Value) : List (Str × IV) → Prop
  | nil : VLs K mg []
  | cons {x : Str} {v : IV} {u : Value} {r : List (Str × IV)} (e : mg x = some u) (h : KRep K v u) (t : VLs K mg r) : VLs K mg ((x, v) :: r)
theorem VLs.get {K : PySem.W.Frag} {mg : Str → Option Value} {x : Str} {v : IV} : ∀ {r : List (Str × IV)}, VLs K mg r → r.lookup x = some v → ∃ u, mg x = some u ∧ KRep K v u
  | _, .nil, h => by simp at h
  | _, .cons (x := y) e hw t, h => by
    rw [List.lookup_cons] at h
    split at h
    · rename_i q
      cases h
      cases eq_of_beq q
      exact ⟨_, e, hw⟩
    · exact t.get h
theorem loose_int {lv : List (Str × PySem.W.WData)} {mg : Str → Option Value} {h : Heap} {x : Str} {i : Int} (L : PySem.W.LooseAre lv mg h) (m : (x, PySem.W.WData.int i) ∈ lv) : ∃ u, mg x = some u ∧ ∀ K, KRep K (.int i) u := by
  obtain ⟨v, h1, h2⟩ := L.val _ m
  cases h2
  exact ⟨_, h1, fun _ => .int⟩
/-- the law's def, with all that it calls -/
theorem law_end {P : Program} {w : World} {K : PySem.W.Frag} {mg : Str → Option Value} {fa : Addr} {gt : GT} {pg : Nat → Option FD} {i k : Nat} {nm : Str} {n : Nat} (gx : Gx) (hnm : mg nm = some (.ref fa)) (hi : gt.fn.lookup nm = some i) (har : gt.ar i = 1)
    (fw : FWs K mg gt pg gt.fn) (bl : BLs mg gt.bl) (gc : gt.bl.contains ("gcd" : Str) = true → mg ("gcd" : Str) = some (.builtin "math.gcd")) (vl : VLs K mg gt.val)
    (law : ∀ ns : List Int, ns.length ≤ n → ∃ F st, runF pg F (k + 1) i [.scr (ns.map IV.int)] [] = .ok (.bl true) st) : ∃ (x : Str) (fd : FuncData) (sp : Sp),
      (∀ (s : Shared) (u : Value), BindsTo s fd ⟨[u], []⟩ [(x, u)]) ∧ (∀ base : Heap, K.In base → base.Ns mainGlobals mg → FnG P w K mg base (k + 1) fa fd [x] sp) ∧
        ∀ (H : Hp) (a : Addr) (ns : List Int), ns.length ≤ n → L2.Only H → SqL K H a (ns.map V.int) → sp [.ref a] H (fun v _ => v = .bl true) fun _ _ _ => False := by
  have gok : ∀ (F : Nat) (base : Heap) (n : Nat), GOk ⟨K, fun _ => 0⟩ gx (runF pg F n) gt n P w K mg base := fun F base n =>
    g_ok rfl (fun x i hx => fw.get hx) (fun x hx hg => bl.get hg hx) gc (fun x v hx => by
      obtain ⟨u, h1, h2⟩ := vl.get hx
      obtain ⟨v', h3, h4⟩ := KRep.rep (G := ⟨K, fun _ => 0⟩) h2
      exact ⟨u, v', h1, h3, h4⟩) n
  obtain ⟨d, hd, ⟨f, fd, nm', qual, st, N, ps, e1, e2, e3, e4, e5, e6, e7, e8⟩⟩ := fw.get hi
  rw [hnm] at e1
  cases e1
  rw [har] at e7
  match ps, e7, e3, e5 with
  | [x], _, e3, e5 =>
    refine ⟨x, fd, fun vs H Q E => ∃ F, spF ⟨K, fun _ => 0⟩ gx 1 (runF pg F (k + 1) i) vs H Q E, fun s u => .of_eq (e3 [u] rfl), fun base _ _ => ⟨fun vs H Q E ⟨F, h⟩ => h.1, fun A outer s H args us vs Q E hrm hgd e0 hb hv ⟨F, h⟩ => ?_⟩, fun H a ns hl hO hS => ?_⟩
    · exact (fn_so (F := F) (base := base) (n := k) (ps := [x]) rfl e4 e5 hd e6 (gok F base k) e8).run A outer s H args us vs Q E hrm hgd e0 hb hv h
    · obtain ⟨F, st, h⟩ := law ns hl
      exact ⟨F, law_want hO hS ⟨st, h⟩⟩
end Mi

/-! Mi: the evaluator's steps, for simp -/
namespace Mi
open PySem
@[simp] theorem bd_ok {α β : Type} (a : α) (s : S) (f : α → S → R β) : (R.ok a s).bind f = f a s := rfl
@[simp] theorem bd_exc {α β : Type} (e : Ex) (s : S) (f : α → S → R β) : (R.exc e s : R α).bind f = .exc e s := rfl
@[simp] theorem bd_bad {α β : Type} (f : α → S → R β) : (R.bad : R α).bind f = .bad := rfl
@[simp] theorem ofO_s {α : Type} (a : α) (s : S) : ofO (some a) s = .ok a s := rfl
@[simp] theorem ofO_n {α : Type} (s : S) : ofO (none : Option α) s = .bad := rfl
@[simp] theorem rd_eq (i : Nat) (s : S) : rdV i s = match getS i s.r with
  | some (.v x) => .ok x s
  | some (.ol xs) => .ok (.lst xs) ⟨s.r.set i (some (.v (.lst xs))), s.h⟩
  | some (.od t ks vs) => .ok (.dct t ks vs) ⟨s.r.set i (some (.v (.dct t ks vs))), s.h⟩
  | none => .bad := rfl
@[simp] theorem gs_z (x : SV) (r : Rho) : getS 0 (some x :: r) = some x := rfl
@[simp] theorem gs_zn (r : Rho) : getS 0 (none :: r) = none := rfl
@[simp] theorem gs_s (i : Nat) (x : Option SV) (r : Rho) : getS (i + 1) (x :: r) = getS i r := by unfold getS; simp

@[simp] theorem ev_0 (cl) (i) (s : S) : evE cl (.var i) s = rdV i s := rfl
@[simp] theorem ev_1 (cl) (i) (s : S) : evE cl (.brw i) s = match getS i s.r with
    | some _ => .ok .non s
    | none => .bad := rfl
@[simp] theorem ev_2 (cl) (v) (s : S) : evE cl (.cst v) s = .ok v s := rfl
@[simp] theorem ev_3 (cl) (v) (zz3) (s : S) : evE cl (.glb zz3 v) s = .ok v s := rfl
@[simp] theorem ev_4 (cl) (op) (a) (b) (s : S) : evE cl (.bin op a b) s = (evE cl a s).bind fun x s1 => (evE cl b s1).bind fun y s2 => match late a x s2, late b y s2 with
    | some x', some y' => ofO (iBin op x' y') s2
    | _, _ => .bad := rfl
@[simp] theorem ev_5 (cl) (a) (s : S) : evE cl (.neg a) s = (evE cl a s).bind fun x s1 => ofO (iNeg x) s1 := rfl
@[simp] theorem ev_6 (cl) (a) (s : S) : evE cl (.notV a) s = (evE cl a s).bind fun x s1 => match late a x s1 with
    | some x' => match iTruth x' with
      | some b => .ok (.bl (!b)) s1
      | none => .bad
    | none => .bad := rfl
@[simp] theorem ev_7 (cl) (op) (a) (b) (s : S) : evE cl (.cmp op a b) s = (evE cl a s).bind fun x s1 => (evE cl b s1).bind fun y s2 => match late a x s2, late b y s2 with
    | some x', some y' => match iCmp op x' y' with
      | some k => .ok (.bl k) s2
      | none => .bad
    | _, _ => .bad := rfl
@[simp] theorem ev_8 (cl) (o1) (o2) (a) (b) (c) (s : S) : evE cl (.chn o1 o2 a b c) s = (evE cl a s).bind fun x s1 => (evE cl b s1).bind fun y s2 => match iCmp o1 x y with
    | some true => (evE cl c s2).bind fun z s3 => match iCmp o2 y z with
      | some k => .ok (.bl k) s3
      | none => .bad
    | some false => .ok (.bl false) s2
    | none => .bad := rfl
@[simp] theorem ev_9 (cl) (a) (b) (s : S) : evE cl (.andV a b) s = (evE cl a s).bind fun x s1 => match iTruth (deref s1.h x) with
    | some true => evE cl b s1
    | some false => .ok x s1
    | none => .bad := rfl
@[simp] theorem ev_10 (cl) (a) (b) (s : S) : evE cl (.orV a b) s = (evE cl a s).bind fun x s1 => match iTruth (deref s1.h x) with
    | some false => evE cl b s1
    | some true => .ok x s1
    | none => .bad := rfl
@[simp] theorem ev_11 (cl) (t) (a) (b) (s : S) : evE cl (.ife t a b) s = (evT cl t s).bind fun k s1 => if k then evE cl a s1 else evE cl b s1 := rfl
@[simp] theorem ev_12 (cl) (es) (s : S) : evE cl (.tup es) s = (evL cl es s).bind fun xs s1 => if lineOk xs.length then .ok (.tup xs) s1 else .bad := rfl
@[simp] theorem ev_13 (cl) (a) (b) (s : S) : evE cl (.idx a b) s = (evE cl a s).bind fun x s1 => (evE cl b s1).bind fun y s2 => match late a x s2 with
    | some x' => ofO (iIdx x' y) s2
    | none => .bad := rfl
@[simp] theorem ev_14 (cl) (a) (lo) (hi) (s : S) : evE cl (.sli a lo hi) s = (evE cl a s).bind fun x s1 => ((evE cl lo s1).bind (chkP lo)).bind fun l s2 => ((evE cl hi s2).bind (chkP hi)).bind fun h s3 => match late a x s3 with
    | some x' => ofO (iSli x' l h) s3
    | none => .bad := rfl
@[simp] theorem ev_15 (cl) (a) (s : S) : evE cl (.rev a) s = (evE cl a s).bind fun x s1 => match late a x s1 with
    | some x' => ofO (iRev x') s1
    | none => .bad := rfl
@[simp] theorem ev_16 (cl) (f) (es) (zz16) (s : S) : evE cl (.call zz16 f es) s = (evL cl es s).bind fun xs s1 => match cl f xs s1.h with
    | .ok v h => .ok v ⟨s1.r, h⟩
    | .exc e h => .exc e ⟨s1.r, h⟩
    | .bad => .bad := rfl
@[simp] theorem ev_17 (cl) (b) (es) (s : S) : evE cl (.blt b es) s = (evL cl es s).bind fun xs s1 => match lateL es xs s1 with
    | some ys => ofO (iBlt b ys) s1
    | none => .bad := rfl
@[simp] theorem ev_18 (cl) (a) (ts) (s : S) : evE cl (.isi a ts) s = (evE cl a s).bind fun x s1 => match isoL (deref s1.h x) ts with
    | some k => .ok (.bl k) s1
    | none => .bad := rfl
@[simp] theorem ev_19 (cl)  (s : S) : evE cl (.dnil) s = .ok (.dct false [] []) s := rfl
@[simp] theorem ev_20 (cl) (m) (f) (s : S) : evE cl (.fr m f) s = (evF cl f s).bind fun xs s1 => if m then newH (.lst xs) s1 else .ok (.lst xs) s1 := rfl
@[simp] theorem ev_21 (cl) (o) (e) (s : S) : evE cl (.app o e) s = (evE cl o s).bind fun x s1 => match lsAt o x s1 with
    | some _ => (evE cl e s1).bind fun y s2 => match lsAt o x s2 with
      | some xs => if Nat.blt xs.length sizeLine then .ok .non (lsPut o x (xs ++ [y]) s2) else .bad
      | none => .bad
    | none => .bad := rfl
@[simp] theorem ev_22 (cl) (o) (e) (s : S) : evE cl (.ext o e) s = (evE cl o s).bind fun x s1 => match lsAt o x s1 with
    | some _ => (evE cl e s1).bind fun y s2 => match lsAt o x s2, late e y s2 with
      | some xs, some (.lst ys) => if lineOk (xs.length + ys.length) then .ok .non (lsPut o x (xs ++ ys) s2) else .bad
      | _, _ => .bad
    | none => .bad := rfl
@[simp] theorem ev_23 (cl) (o) (s : S) : evE cl (.pop o) s = (evE cl o s).bind fun x s1 => match lsAt o x s1 with
    | some xs => match xs[xs.length - 1]? with
      | some y => .ok y (lsPut o x xs.dropLast s1)
      | none => .bad
    | none => .bad := rfl
@[simp] theorem ev_24 (cl) (es) (s : S) : evF cl (.dsp es) s = (evL cl es s).bind fun xs s1 => if lineOk xs.length then .ok xs s1 else .bad := rfl
@[simp] theorem ev_25 (cl) (own) (tg) (it) (ifs) (elt) (s : S) : evF cl (.lc own tg it ifs elt) s = (evI cl it s).bind fun xs s1 =>
    (noExc (loopL (fun x s2 => match asgT tg [x] (wipeR s2.r (own.map (·.2))) with
      | some r => (evT cl ifs ⟨r, s2.h⟩).bind fun k s3 => if k then (evE cl elt s3).bind fun y s4 => .ok [y] s4 else .ok [] s3
      | none => .bad) xs ⟨wipeR s1.r (own.map (·.2)), s1.h⟩)).bind fun ys s5 =>
    if lineOk ys.length then .ok ys ⟨backR s1.r s5.r (own.map (·.2)), s5.h⟩ else .bad := rfl
@[simp] theorem ev_26 (cl) (own) (tg) (it) (ifs) (own1) (tg1) (it1) (ifs1) (elt) (s : S) : evF cl (.lc2 own tg it ifs own1 tg1 it1 ifs1 elt) s = (evI cl it s).bind fun xs s1 =>
    (noExc (loopL (fun x s2 => match asgT tg [x] (wipeR s2.r (own.map (·.2))) with
      | some r => (evT cl ifs ⟨r, s2.h⟩).bind fun k s3 => if k then (evI cl it1 s3).bind fun zs s4 =>
          loopL (fun z s6 => match asgT tg1 [z] (wipeR s6.r own1) with
            | some r1 => (evT cl ifs1 ⟨r1, s6.h⟩).bind fun k1 s7 => if k1 then (evE cl elt s7).bind fun y s8 => .ok [y] s8 else .ok [] s7
            | none => .bad) zs s4 else .ok [] s3
      | none => .bad) xs ⟨wipeR s1.r (own.map (·.2)), s1.h⟩)).bind fun ys s5 =>
    if lineOk ys.length then .ok ys ⟨backR s1.r s5.r (own.map (·.2)), s5.h⟩ else .bad := rfl
@[simp] theorem ev_27 (cl) (a) (s : S) : evF cl (.lof a) s = (evE cl a s).bind fun x s1 => match late a x s1 with
    | some (.tup xs) => .ok xs s1
    | some (.lst xs) => .ok xs s1
    | _ => .bad := rfl
@[simp] theorem ev_28 (cl) (a) (b) (s : S) : evF cl (.rep a b) s = (evE cl a s).bind fun x s1 => (evE cl b s1).bind fun y s2 => match late a x s2, late b y s2 with
    | some (.lst xs), some (.int k) => if repOk xs.length k then .ok (List.replicate k.toNat xs).flatten s2 else .bad
    | _, _ => .bad := rfl
@[simp] theorem ev_29 (cl) (a) (b) (s : S) : evF cl (.cat a b) s = (evE cl a s).bind fun x s1 => (evE cl b s1).bind fun y s2 => match late a x s2, late b y s2 with
    | some (.lst xs), some (.lst ys) => if lineOk (xs.length + ys.length) then .ok (xs ++ ys) s2 else .bad
    | _, _ => .bad := rfl
@[simp] theorem ev_30 (cl) (a) (lo) (hi) (s : S) : evF cl (.sli a lo hi) s = (evE cl a s).bind fun x s1 => ((evE cl lo s1).bind (chkP lo)).bind fun l s2 => ((evE cl hi s2).bind (chkP hi)).bind fun h s3 => match late a x s3, ofI l, ofI h with
    | some (.lst xs), some l', some h' => .ok (cutI xs l' h') s3
    | some (.scr xs), some l', some h' => .ok (cutI xs l' h') s3
    | _, _, _ => .bad := rfl
@[simp] theorem ev_31 (cl)  (s : S) : evL cl (.nil) s = .ok [] s := rfl
@[simp] theorem ev_32 (cl) (a) (l) (s : S) : evL cl (.cons a l) s = (evE cl a s).bind fun x s1 => (evL cl l s1).bind fun xs s2 => .ok (x :: xs) s2 := rfl
@[simp] theorem ev_33 (cl)  (s : S) : evT cl (.yes) s = .ok true s := rfl
@[simp] theorem ev_34 (cl) (a) (s : S) : evT cl (.val a) s = (evE cl a s).bind fun x s1 => match late a x s1 with
    | some x' => ofO (iTruth x') s1
    | none => .bad := rfl
@[simp] theorem ev_35 (cl) (t) (s : S) : evT cl (.not t) s = (evT cl t s).bind fun k s1 => .ok (!k) s1 := rfl
@[simp] theorem ev_36 (cl) (a) (b) (s : S) : evT cl (.and a b) s = (evT cl a s).bind fun k s1 => if k then evT cl b s1 else .ok false s1 := rfl
@[simp] theorem ev_37 (cl) (a) (b) (s : S) : evT cl (.or a b) s = (evT cl a s).bind fun k s1 => if k then .ok true s1 else evT cl b s1 := rfl
@[simp] theorem ev_38 (cl) (a) (s : S) : evI cl (.sq a) s = (evE cl a s).bind fun x s1 => ofO (seqL x) s1 := rfl
@[simp] theorem ev_39 (cl) (a) (s : S) : evI cl (.rng1 a) s = (evE cl a s).bind fun x s1 => match x with
    | .int j => if far j then .ok (rngL 0 j.toNat) s1 else .bad
    | _ => .bad := rfl
@[simp] theorem ev_40 (cl) (a) (b) (s : S) : evI cl (.rng2 a b) s = (evE cl a s).bind fun x s1 => (evE cl b s1).bind fun y s2 => match x, y with
    | .int i, .int j => if far i && far j then .ok (rngL i (j - i).toNat) s2 else .bad
    | _, _ => .bad := rfl
@[simp] theorem ev_41 (cl) (a) (b) (c) (s : S) : evI cl (.rng3 a b c) s = (evE cl a s).bind fun x s1 => (evE cl b s1).bind fun y s2 => (evE cl c s2).bind fun z s3 => match x, y, z with
    | .int i, .int j, .int k => ofO (rng3L i j k) s3
    | _, _, _ => .bad := rfl
@[simp] theorem ev_42 (cl) (a) (s : S) : evI cl (.enu a) s = (evE cl a s).bind fun x s1 => match x with
    | .lst xs => .ok (enuL 0 xs) s1
    | .tup xs => .ok (enuL 0 xs) s1
    | _ => .bad := rfl
@[simp] theorem ev_43 (cl) (a) (b) (s : S) : evI cl (.zip a b) s = (evE cl a s).bind fun x s1 => (evE cl b s1).bind fun y s2 => match x, y with
    | .lst xs, .lst ys => .ok (zipL xs ys) s2
    | .tup xs, .tup ys => .ok (zipL xs ys) s2
    | .lst xs, .tup ys => .ok (zipL xs ys) s2
    | .tup xs, .lst ys => .ok (zipL xs ys) s2
    | _, _ => .bad := rfl
@[simp] theorem ev_44 (cl) (F : Nat) (tg) (e) (s : S) : evS cl F (.asg tg e) s = (evE cl e s).bind fun x s1 => match asgT tg [x] s1.r with
    | some r => .ok .nx ⟨r, s1.h⟩
    | none => .bad := rfl
@[simp] theorem ev_45 (cl) (F : Nat) (i) (f) (s : S) : evS cl F (.own i f) s = (evF cl f s).bind fun xs s1 => .ok .nx ⟨s1.r.set i (some (.ol xs)), s1.h⟩ := rfl
@[simp] theorem ev_46 (cl) (F : Nat) (is) (ps) (s : S) : evS cl F (.par is ps) s = (evP cl ps s).bind fun xs s1 => .ok .nx ⟨setsR is xs s1.r, s1.h⟩ := rfl
@[simp] theorem ev_47 (cl) (F : Nat) (o) (k) (e) (s : S) : evS cl F (.put o k e) s = (evE cl e s).bind fun v s1 => (evE cl o s1).bind fun x s2 => (evE cl k s2).bind fun i s3 => match lsAt o x s3, i with
    | some xs, .int j => match L2.ixN xs.length j with
      | some m => .ok .nx (lsPut o x (xs.set m v) s3)
      | none => .bad
    | _, _ => .bad := rfl
@[simp] theorem ev_48 (cl) (F : Nat) (e) (s : S) : evS cl F (.exp e) s = (evE cl e s).bind fun _ s1 => .ok .nx s1 := rfl
@[simp] theorem ev_49 (cl) (F : Nat) (e) (s : S) : evS cl F (.ret e) s = (evE cl e s).bind fun x s1 => .ok (.rt x) s1 := rfl
@[simp] theorem ev_50 (cl) (F : Nat)  (s : S) : evS cl F (.retN) s = .ok (.rt .non) s := rfl
@[simp] theorem ev_51 (cl) (F : Nat) (t) (a) (b) (s : S) : evS cl F (.ife t a b) s = (evT cl t s).bind fun k s1 => if k then evSs cl F a s1 else evSs cl F b s1 := rfl
@[simp] theorem ev_52 (cl) (F : Nat) (t) (b) (s : S) : evS cl F (.whl t b) s = loopW (evT cl t) (evSs cl F b) F s := rfl
@[simp] theorem ev_53 (cl) (F : Nat) (tg) (it) (b) (s : S) : evS cl F (.loop tg it b) s = (evI cl it s).bind fun xs s1 => loopF (fun x s2 => match asgT tg [x] s2.r with
    | some r => evSs cl F b ⟨r, s2.h⟩
    | none => .bad) xs s1 := rfl
@[simp] theorem ev_54 (cl) (F : Nat)  (s : S) : evS cl F (.brk) s = .ok .bk s := rfl
@[simp] theorem ev_55 (cl) (F : Nat)  (s : S) : evS cl F (.cnt) s = .ok .ct s := rfl
@[simp] theorem ev_56 (cl) (F : Nat)  (s : S) : evS cl F (.pss) s = .ok .nx s := rfl
@[simp] theorem ev_57 (cl) (F : Nat)  (s : S) : evS cl F (.nvr) s = .bad := rfl
@[simp] theorem ev_58 (cl) (F : Nat)  (s : S) : evSs cl F (.nil) s = .ok .nx s := rfl
@[simp] theorem ev_59 (cl) (F : Nat) (a) (l) (s : S) : evSs cl F (.cons a l) s = (evS cl F a s).bind fun fl s1 => match fl with
    | .nx => evSs cl F l s1
    | fl => .ok fl s1 := rfl
@[simp] theorem evP_nil (cl) (s : S) : evP cl [] s = .ok [] s := rfl
@[simp] theorem evP_e (cl) (e) (ps) (s : S) : evP cl (.e e :: ps) s = (evE cl e s).bind fun x s1 => (evP cl ps s1).bind fun xs s2 => .ok (.v x :: xs) s2 := rfl
@[simp] theorem evP_f (cl) (f) (ps) (s : S) : evP cl (.f f :: ps) s = (evF cl f s).bind fun x s1 => (evP cl ps s1).bind fun xs s2 => .ok (.ol x :: xs) s2 := rfl
@[simp] theorem late_var (i v s) : late (.var i) v s = some (deref s.h v) := rfl
@[simp] theorem late_glb (x : Str) (v : IV) (v : IV) (s : S) : late (.glb x v) v s = some (deref s.h v) := rfl
@[simp] theorem late_cst (v : IV) (v : IV) (s : S) : late (.cst v) v s = some (deref s.h v) := rfl
@[simp] theorem late_bin (op) (a b : CE) (v : IV) (s : S) : late (.bin op a b) v s = some (deref s.h v) := rfl
@[simp] theorem late_neg (a : CE) (v : IV) (s : S) : late (.neg a) v s = some (deref s.h v) := rfl
@[simp] theorem late_notV (a : CE) (v : IV) (s : S) : late (.notV a) v s = some (deref s.h v) := rfl
@[simp] theorem late_cmp (op) (a b : CE) (v : IV) (s : S) : late (.cmp op a b) v s = some (deref s.h v) := rfl
@[simp] theorem late_chn (o1 o2) (a b c : CE) (v : IV) (s : S) : late (.chn o1 o2 a b c) v s = some (deref s.h v) := rfl
@[simp] theorem late_andV (a b : CE) (v : IV) (s : S) : late (.andV a b) v s = some (deref s.h v) := rfl
@[simp] theorem late_orV (a b : CE) (v : IV) (s : S) : late (.orV a b) v s = some (deref s.h v) := rfl
@[simp] theorem late_ife (t : CT) (a b : CE) (v : IV) (s : S) : late (.ife t a b) v s = some (deref s.h v) := rfl
@[simp] theorem late_tup (l : CL) (v : IV) (s : S) : late (.tup l) v s = some (deref s.h v) := rfl
@[simp] theorem late_idx (a b : CE) (v : IV) (s : S) : late (.idx a b) v s = some (deref s.h v) := rfl
@[simp] theorem late_sli (a b c : CE) (v : IV) (s : S) : late (.sli a b c) v s = some (deref s.h v) := rfl
@[simp] theorem late_rev (a : CE) (v : IV) (s : S) : late (.rev a) v s = some (deref s.h v) := rfl
@[simp] theorem late_call (x : Str) (f : Nat) (l : CL) (v : IV) (s : S) : late (.call x f l) v s = some (deref s.h v) := rfl
@[simp] theorem late_blt (b : Blt) (l : CL) (v : IV) (s : S) : late (.blt b l) v s = some (deref s.h v) := rfl
@[simp] theorem late_isi (a : CE) (l : List String) (v : IV) (s : S) : late (.isi a l) v s = some (deref s.h v) := rfl
@[simp] theorem late_fr (m : Bool) (f : CF) (v : IV) (s : S) : late (.fr m f) v s = some (deref s.h v) := rfl
@[simp] theorem late_dnil  (v : IV) (s : S) : late .dnil v s = some (deref s.h v) := rfl
@[simp] theorem late_app (a b : CE) (v : IV) (s : S) : late (.app a b) v s = some (deref s.h v) := rfl
@[simp] theorem late_ext (a b : CE) (v : IV) (s : S) : late (.ext a b) v s = some (deref s.h v) := rfl
@[simp] theorem late_pop (a : CE) (v : IV) (s : S) : late (.pop a) v s = some (deref s.h v) := rfl
@[simp] theorem late_brw (i : Nat) (v : IV) (s : S) : late (.brw i) v s = brwV i s := rfl
@[simp] theorem deref_int (h : Sto) (i : Int) : deref h (.int i) = (.int i) := rfl
@[simp] theorem deref_bl (h : Sto) (i : Bool) : deref h (.bl i) = (.bl i) := rfl
@[simp] theorem deref_str (h : Sto) (i : Str) : deref h (.str i) = (.str i) := rfl
@[simp] theorem deref_tup (h : Sto) (i : List IV) : deref h (.tup i) = (.tup i) := rfl
@[simp] theorem deref_lst (h : Sto) (i : List IV) : deref h (.lst i) = (.lst i) := rfl
@[simp] theorem deref_scr (h : Sto) (i : List IV) : deref h (.scr i) = (.scr i) := rfl
@[simp] theorem deref_non (h : Sto)  : deref h .non = .non := rfl
@[simp] theorem deref_dct (h : Sto) (t) (i j : List IV) : deref h (.dct t i j) = (.dct t i j) := rfl
@[simp] theorem tr_int (i : Int) : iTruth (.int i) = some (i != 0) := rfl
@[simp] theorem tr_bl (i : Bool) : iTruth (.bl i) = some i := rfl
@[simp] theorem tr_non : iTruth .non = some false := rfl
@[simp] theorem tr_tup (i : List IV) : iTruth (.tup i) = some (!i.isEmpty) := rfl
@[simp] theorem tr_lst (i : List IV) : iTruth (.lst i) = some (!i.isEmpty) := rfl
@[simp] theorem cmp_eq (x y : IV) : iCmp .eq x y = iEq x y := rfl
@[simp] theorem cmp_ne (x y : IV) : iCmp .ne x y = oNot (iEq x y) := rfl
@[simp] theorem cmp_lt (x y : IV) : iCmp .lt x y = iLt x y := rfl
@[simp] theorem cmp_gt (x y : IV) : iCmp .gt x y = iGt x y := rfl
@[simp] theorem cmp_le (x y : IV) : iCmp .le x y = iLe x y := rfl
@[simp] theorem cmp_ge (x y : IV) : iCmp .ge x y = iLe y x := rfl
@[simp] theorem cmp_is (x y : IV) : iCmp .is x y = iIs x y := rfl
@[simp] theorem cmp_isnot (x y : IV) : iCmp .isnot x y = oNot (iIs x y) := rfl
@[simp] theorem cmp_isin (x y : IV) : iCmp .isin x y = iIn x y := rfl
@[simp] theorem cmp_notin (x y : IV) : iCmp .notin x y = oNot (iIn x y) := rfl
@[simp] theorem eq_ss (a b : Str) : iEq (.str a) (.str b) = some (a == b) := rfl
@[simp] theorem eq_ii (a b : Int) : iEq (.int a) (.int b) = some (a == b) := rfl
@[simp] theorem oN (b : Bool) : oNot (some b) = some (!b) := rfl
@[simp] theorem lt_i (i j : Int) : iLt (.int i) (.int j) = some (decide (i < j)) := rfl
@[simp] theorem gt_i (i j : Int) : iGt (.int i) (.int j) = some (decide (j < i)) := rfl
@[simp] theorem le_i (i j : Int) : iLe (.int i) (.int j) = some (decide (i ≤ j)) := rfl
@[simp] theorem bin_add (x y : IV) : iBin .add x y = iAdd x y := rfl
@[simp] theorem bin_sub (x y : IV) : iBin .sub x y = iSub x y := rfl
@[simp] theorem bin_mul (x y : IV) : iBin .mul x y = iMul x y := rfl
@[simp] theorem bin_fdiv (x y : IV) : iBin .fdiv x y = iFdiv x y := rfl
@[simp] theorem bin_mod (x y : IV) : iBin .mod x y = iMod x y := rfl
@[simp] theorem bin_pow (x y : IV) : iBin .pow x y = iPow x y := rfl
@[simp] theorem add_i (i j : Int) : iAdd (.int i) (.int j) = some (.int (i + j)) := rfl
@[simp] theorem sub_i (i j : Int) : iSub (.int i) (.int j) = some (.int (i - j)) := rfl
@[simp] theorem mul_i (i j : Int) : iMul (.int i) (.int j) = if mulOk i j then some (.int (i * j)) else none := rfl
@[simp] theorem fdiv_i (i j : Int) : iFdiv (.int i) (.int j) = if divOk j then some (.int (i.fdiv j)) else none := rfl
@[simp] theorem mod_i (i j : Int) : iMod (.int i) (.int j) = if j == 0 then none else some (.int (i.fmod j)) := rfl
@[simp] theorem pow_i (i j : Int) : iPow (.int i) (.int j) = if powOk i j then some (.int (i ^ j.toNat)) else none := rfl
@[simp] theorem add_t (i j : List IV) : iAdd (.tup i) (.tup j) = if lineOk (i.length + j.length) then some (.tup (i ++ j)) else none := rfl
@[simp] theorem add_l (i j : List IV) : iAdd (.lst i) (.lst j) = if lineOk (i.length + j.length) then some (.lst (i ++ j)) else none := rfl
@[simp] theorem neg_i (i : Int) : iNeg (.int i) = some (.int (-i)) := rfl
@[simp] theorem ix_t (i : List IV) (j : Int) : iIdx (.tup i) (.int j) = L2.atI i j := rfl
@[simp] theorem ix_l (i : List IV) (j : Int) : iIdx (.lst i) (.int j) = L2.atI i j := rfl
@[simp] theorem ix_s (i : List IV) (j : Int) : iIdx (.scr i) (.int j) = L2.atI i j := rfl
@[simp] theorem b_len (x : IV) : iBlt .len [x] = iLen x := rfl
@[simp] theorem l_t (i : List IV) : iLen (.tup i) = some (.int i.length) := rfl
@[simp] theorem l_l (i : List IV) : iLen (.lst i) = some (.int i.length) := rfl
@[simp] theorem l_s (i : List IV) : iLen (.scr i) = some (.int i.length) := rfl
@[simp] theorem b_int (i : Int) : iBlt .int [.int i] = some (.int i) := rfl
@[simp] theorem b_intb (k : Bool) : iBlt .int [.bl k] = some (.int (if k then 1 else 0)) := rfl
@[simp] theorem b_abs (i : Int) : iBlt .abs [.int i] = some (.int (if i < 0 then -i else i)) := rfl
@[simp] theorem b_max (i j : Int) : iBlt .max2 [.int i, .int j] = some (.int (if j > i then j else i)) := rfl
@[simp] theorem b_min (i j : Int) : iBlt .min2 [.int i, .int j] = some (.int (if j < i then j else i)) := rfl
@[simp] theorem b_tt (i : List IV) : iBlt .tuple [.tup i] = some (.tup i) := rfl
@[simp] theorem b_tl (i : List IV) : iBlt .tuple [.lst i] = some (.tup i) := rfl
@[simp] theorem b_lt (i : List IV) : iBlt .list [.tup i] = some (.lst i) := rfl
@[simp] theorem b_ll (i : List IV) : iBlt .list [.lst i] = some (.lst i) := rfl
@[simp] theorem b_gcd (i j : Int) : iBlt .gcd [.int i, .int j] = some (.int (Int.gcd i j)) := rfl
@[simp] theorem b_repr (x : IV) : iBlt .repr [x] = iRepr x := rfl
@[simp] theorem b_sum (i : List IV) : iBlt .sum [.lst i] = (intsOf i).map fun ns => .int ns.sum := rfl
@[simp] theorem lL_nil (s : S) : lateL .nil [] s = some [] := rfl
@[simp] theorem lL_cons (c : CE) (l : CL) (x : IV) (xs : List IV) (s : S) : lateL (.cons c l) (x :: xs) s = match late c x s, lateL l xs s with
  | some y, some ys => some (y :: ys)
  | _, _ => none := rfl
@[simp] theorem asg_nm (i : Nat) (x : IV) (r : Rho) : asgT (.nm i) [x] r = some (r.set i (some (.v x))) := rfl
@[simp] theorem asg_tp (t : TG) (x : List IV) (r : Rho) : asgT (.tp t) [.tup x] r = asgT t x r := rfl
@[simp] theorem asg_nil (r : Rho) : asgT .nil [] r = some r := rfl
@[simp] theorem asg_cons (a b : TG) (x : IV) (xs : List IV) (r : Rho) : asgT (.cons a b) (x :: xs) r = match asgT a [x] r with
  | some r1 => asgT b xs r1
  | none => none := rfl
@[simp] theorem rc_rt (v : IV) (s : S) : toRc (.ok (.rt v) s) = .ok v s.h := rfl
@[simp] theorem rc_nx (s : S) : toRc (.ok .nx s) = .ok .non s.h := rfl
@[simp] theorem rc_exc (e : Ex) (s : S) : toRc (.exc e s) = .exc e s.h := rfl
@[simp] theorem sr_nil (x : List SV) (r : Rho) : setsR [] x r = r := rfl
@[simp] theorem sr_cons (i : Nat) (is : List Nat) (x : SV) (xs : List SV) (r : Rho) : setsR (i :: is) (x :: xs) r = setsR is xs (r.set i (some x)) := rfl
@[simp] theorem lf_nil (f : IV → S → R Fl) (s : S) : loopF f [] s = .ok .nx s := rfl
@[simp] theorem sq_t (x : List IV) : seqL (.tup x) = some x := rfl
@[simp] theorem sq_l (x : List IV) : seqL (.lst x) = some x := rfl
@[simp] theorem iso1 (x : IV) (T : String) : isoL x [T] = match isOf x T with
  | some true => some true
  | some false => some false
  | none => none := rfl
@[simp] theorem is_int (i : Int) (T : String) : isOf (.int i) T = some (T == "int") := rfl
@[simp] theorem is_bl (i : Bool) (T : String) : isOf (.bl i) T = some (T == "bool" || T == "int") := rfl
@[simp] theorem is_non (T : String) : isOf .non T = some false := rfl
@[simp] theorem is_str (i : Str) (T : String) : isOf (.str i) T = some (T == "str") := rfl
@[simp] theorem is_tup (i : List IV) (T : String) : isOf (.tup i) T = some (T == "tuple") := rfl
@[simp] theorem is_lst (i : List IV) (T : String) : isOf (.lst i) T = some (T == "list") := rfl
@[simp] theorem is_dct (i j : List IV) (T : String) : isOf (.dct false i j) T = some (T == "dict") := rfl
@[simp] theorem lk_small {n : Nat} (h : n ≤ 1000) : lineOk n = true := by
  unfold lineOk
  exact Nat.ble_eq_true_of_le (Nat.le_trans h (by decide))
theorem atN {α : Type} (xs : List α) (k : Nat) : L2.atI xs (k : Int) = xs[k]? := by
  unfold L2.atI L2.ixN
  by_cases h : k < xs.length
  · simp [h]
  · simp [h]
@[simp] theorem at_0 {α : Type} (x : α) (r : List α) : L2.atI (x :: r) 0 = some x := atN _ 0
@[simp] theorem at_1 {α : Type} (x y : α) (r : List α) : L2.atI (x :: y :: r) 1 = some y := atN _ 1
@[simp] theorem at_2 {α : Type} (x y z : α) (r : List α) : L2.atI (x :: y :: z :: r) 2 = some z := atN _ 2
/-! ### texts of values -/
theorem shown_int_len {i : Int} {k : Nat} (hk : 0 < k) (h : i.natAbs < 10 ^ k) : (PyData.shown (.int i)).length ≤ k + 1 := by
  have e := int_text_length_le10 (k := k) hk h
  show (Str.ofString (toString i)).length ≤ k + 1
  rw [ofString_length]; exact e
/-- what repr tells, where it is not long -/
theorem repr_ok {x : IV} {d : PyData} (hx : toD x = some d) (hs : d.showable = true) (hd : d.depth ≤ 60) (hl : d.leavesShort 600 = true) (hw : d.weight ≤ 25000) : iRepr x = some (.str d.shown) := by
  unfold iRepr
  rw [hx]
  have h := PyData.shown_le 600 (by decide) d hl
  have h2 : (600 + 2) * d.weight ≤ 602 * 25000 := Nat.mul_le_mul (by omega) hw
  have h3 : lineOk d.shown.length = true := by
    unfold lineOk
    refine Nat.ble_eq_true_of_le ?_
    rw [sizeLine_eq]
    omega
  have h4 : Nat.ble d.depth 60 = true := Nat.ble_eq_true_of_le hd
  show (if (d.showable && Nat.ble d.depth 60 && lineOk d.shown.length) = true then _ else _) = _
  rw [hs, h4, h3]
  rfl
theorem run_step {pg : Nat → Option FD} {F n i : Nat} {args : List IV} {h : Sto} : runF pg F (n + 1) i args h = match pg i with
  | none => Rc.bad
  | some d => toRc (evSs (runF pg F n) F d.body ⟨startR d.ns args, h⟩) := rfl
@[simp] theorem start_cons {n : Nat} (x : IV) (xs : List IV) : startR (n + 1) (x :: xs) = some (.v x) :: startR n xs := by
  unfold startR
  simp
@[simp] theorem start_nil {n : Nat} : startR n [] = List.replicate n none := by
  unfold startR
  simp
end Mi

namespace Lk
open PySem L2 Mi
def top (i : Nat) : Stmt := PySem.Challenge.pw_bestchance_k01_whole_fractions.main.body.getD i (.Pass ⟨0, 0, 0, 0⟩)
/-- is_whole -/
def n_0 : List Str := [("value" : Str)]
def p_0 : List Str := [("value" : Str)]
def d_0 : FD := ⟨1, 1, (.cons (.ret (.andV (.isi (.var 0) ["int"]) (.notV (.isi (.var 0) ["bool"]))))
    .nil)⟩
/-- is_short -/
def n_1 : List Str := [("value" : Str)]
def p_1 : List Str := [("value" : Str)]
def d_1 : FD := ⟨1, 1, (.cons (.ret (.andV (.call ("is_whole" : Str) 0 (.cons (.var 0) .nil)) (.chn .lt .lt (.neg (.glb ("FAR" : Str) (.int 1000000000000000000000000000000000000000000000000000000000000))) (.var 0) (.glb ("FAR" : Str) (.int 1000000000000000000000000000000000000000000000000000000000000)))))
    .nil)⟩
/-- is_pair -/
def n_2 : List Str := [("value" : Str)]
def p_2 : List Str := [("value" : Str)]
def d_2 : FD := ⟨1, 1, (.cons (.ret (.andV (.isi (.var 0) ["tuple"]) (.cmp .eq (.blt .len (.cons (.var 0) .nil)) (.glb ("PAIR_SIZE" : Str) (.int 2)))))
    .nil)⟩
/-- share -/
def n_3 : List Str := [("top" : Str), ("bottom" : Str), ("common" : Str)]
def p_3 : List Str := [("top" : Str), ("bottom" : Str)]
def d_3 : FD := ⟨2, 3, (.cons (.asg (.nm 2) (.blt .gcd (.cons (.var 0) (.cons (.var 1) .nil))))
    (.cons (.ife (.val (.cmp .lt (.var 1) (.cst (.int 0))))
    (.cons (.asg (.nm 2) (.neg (.var 2)))
    .nil)
    .nil)
    (.cons (.ret (.tup (.cons (.bin .fdiv (.var 0) (.var 2)) (.cons (.bin .fdiv (.var 1) (.var 2)) .nil))))
    .nil)))⟩
/-- plus -/
def n_4 : List Str := [("one" : Str), ("other" : Str)]
def p_4 : List Str := [("one" : Str), ("other" : Str)]
def d_4 : FD := ⟨2, 2, (.cons (.ret (.call ("share" : Str) 3 (.cons (.bin .add (.bin .mul (.idx (.var 0) (.cst (.int 0))) (.idx (.var 1) (.cst (.int 1)))) (.bin .mul (.idx (.var 1) (.cst (.int 0))) (.idx (.var 0) (.cst (.int 1))))) (.cons (.bin .mul (.idx (.var 0) (.cst (.int 1))) (.idx (.var 1) (.cst (.int 1)))) .nil))))
    .nil)⟩
/-- minus -/
def n_5 : List Str := [("one" : Str), ("other" : Str)]
def p_5 : List Str := [("one" : Str), ("other" : Str)]
def d_5 : FD := ⟨2, 2, (.cons (.ret (.call ("share" : Str) 3 (.cons (.bin .sub (.bin .mul (.idx (.var 0) (.cst (.int 0))) (.idx (.var 1) (.cst (.int 1)))) (.bin .mul (.idx (.var 1) (.cst (.int 0))) (.idx (.var 0) (.cst (.int 1))))) (.cons (.bin .mul (.idx (.var 0) (.cst (.int 1))) (.idx (.var 1) (.cst (.int 1)))) .nil))))
    .nil)⟩
/-- times -/
def n_6 : List Str := [("one" : Str), ("other" : Str)]
def p_6 : List Str := [("one" : Str), ("other" : Str)]
def d_6 : FD := ⟨2, 2, (.cons (.ret (.call ("share" : Str) 3 (.cons (.bin .mul (.idx (.var 0) (.cst (.int 0))) (.idx (.var 1) (.cst (.int 0)))) (.cons (.bin .mul (.idx (.var 0) (.cst (.int 1))) (.idx (.var 1) (.cst (.int 1)))) .nil))))
    .nil)⟩
/-- over -/
def n_7 : List Str := [("one" : Str), ("other" : Str)]
def p_7 : List Str := [("one" : Str), ("other" : Str)]
def d_7 : FD := ⟨2, 2, (.cons (.ret (.call ("share" : Str) 3 (.cons (.bin .mul (.idx (.var 0) (.cst (.int 0))) (.idx (.var 1) (.cst (.int 1)))) (.cons (.bin .mul (.idx (.var 0) (.cst (.int 1))) (.idx (.var 1) (.cst (.int 0)))) .nil))))
    .nil)⟩
/-- is_less -/
def n_8 : List Str := [("one" : Str), ("other" : Str)]
def p_8 : List Str := [("one" : Str), ("other" : Str)]
def d_8 : FD := ⟨2, 2, (.cons (.ret (.cmp .lt (.bin .mul (.idx (.var 0) (.cst (.int 0))) (.idx (.var 1) (.cst (.int 1)))) (.bin .mul (.idx (.var 1) (.cst (.int 0))) (.idx (.var 0) (.cst (.int 1))))))
    .nil)⟩
/-- small -/
def n_9 : List Str := [("one" : Str), ("other" : Str)]
def p_9 : List Str := [("one" : Str), ("other" : Str)]
def d_9 : FD := ⟨2, 2, (.cons (.ret (.ife (.val (.call ("is_less" : Str) 8 (.cons (.var 1) (.cons (.var 0) .nil)))) (.var 1) (.var 0)))
    .nil)⟩
/-- total_of -/
def n_10 : List Str := [("shares" : Str), ("found" : Str), ("one" : Str)]
def p_10 : List Str := [("shares" : Str)]
def d_10 : FD := ⟨1, 3, (.cons (.asg (.nm 1) (.glb ("ZERO" : Str) (.tup [(.int 0), (.int 1)])))
    (.cons (.loop (.nm 2) (.sq (.var 0))
    (.cons (.asg (.nm 1) (.call ("plus" : Str) 4 (.cons (.var 1) (.cons (.var 2) .nil))))
    .nil))
    (.cons (.ret (.var 1))
    .nil)))⟩
/-- is_share -/
def n_11 : List Str := [("value" : Str)]
def p_11 : List Str := [("value" : Str)]
def d_11 : FD := ⟨1, 1, (.cons (.ife (.or (.not (.val (.call ("is_pair" : Str) 2 (.cons (.var 0) .nil)))) (.or (.not (.val (.call ("is_whole" : Str) 0 (.cons (.idx (.var 0) (.cst (.int 0))) .nil)))) (.or (.not (.val (.call ("is_whole" : Str) 0 (.cons (.idx (.var 0) (.cst (.int 1))) .nil)))) (.val (.cmp .lt (.idx (.var 0) (.cst (.int 1))) (.cst (.int 1)))))))
    (.cons (.ret (.cst (.bl false)))
    .nil)
    .nil)
    (.cons (.ret (.cmp .eq (.blt .gcd (.cons (.idx (.var 0) (.cst (.int 0))) (.cons (.idx (.var 0) (.cst (.int 1))) .nil))) (.cst (.int 1))))
    .nil))⟩
/-- is_short_share -/
def n_12 : List Str := [("value" : Str)]
def p_12 : List Str := [("value" : Str)]
def d_12 : FD := ⟨1, 1, (.cons (.ret (.andV (.call ("is_share" : Str) 11 (.cons (.var 0) .nil)) (.andV (.chn .lt .lt (.neg (.glb ("FAR" : Str) (.int 1000000000000000000000000000000000000000000000000000000000000))) (.idx (.var 0) (.cst (.int 0))) (.glb ("FAR" : Str) (.int 1000000000000000000000000000000000000000000000000000000000000))) (.cmp .lt (.idx (.var 0) (.cst (.int 1))) (.glb ("FAR" : Str) (.int 1000000000000000000000000000000000000000000000000000000000000))))))
    .nil)⟩
/-- require_fraction -/
def n_13 : List Str := [("value" : Str)]
def p_13 : List Str := [("value" : Str)]
def d_13 : FD := ⟨1, 1, (.cons (.ife (.not (.val (.call ("is_short_share" : Str) 12 (.cons (.var 0) .nil))))
    (.cons .nvr
    .nil)
    .nil)
    .nil)⟩
/-- require_two -/
def n_14 : List Str := [("one" : Str), ("other" : Str)]
def p_14 : List Str := [("one" : Str), ("other" : Str)]
def d_14 : FD := ⟨2, 2, (.cons (.exp (.call ("require_fraction" : Str) 13 (.cons (.var 0) .nil)))
    (.cons (.exp (.call ("require_fraction" : Str) 13 (.cons (.var 1) .nil)))
    .nil))⟩
/-- require_fractions -/
def n_15 : List Str := [("value" : Str), ("one" : Str)]
def p_15 : List Str := [("value" : Str)]
def d_15 : FD := ⟨1, 2, (.cons (.ife (.not (.val (.isi (.var 0) ["tuple"])))
    (.cons .nvr
    .nil)
    .nil)
    (.cons (.loop (.nm 1) (.sq (.var 0))
    (.cons (.exp (.call ("require_fraction" : Str) 13 (.cons (.var 1) .nil)))
    .nil))
    .nil))⟩
/-- is_fraction -/
def n_16 : List Str := [("value" : Str)]
def p_16 : List Str := [("value" : Str)]
def d_16 : FD := ⟨1, 1, (.cons (.ret (.call ("is_share" : Str) 11 (.cons (.var 0) .nil)))
    .nil)⟩
/-- fraction -/
def n_17 : List Str := [("top" : Str), ("bottom" : Str), ("value" : Str)]
def p_17 : List Str := [("top" : Str), ("bottom" : Str)]
def d_17 : FD := ⟨2, 3, (.cons (.loop (.nm 2) (.sq (.tup (.cons (.var 0) (.cons (.var 1) .nil))))
    (.cons (.ife (.not (.val (.call ("is_short" : Str) 1 (.cons (.var 2) .nil))))
    (.cons .nvr
    .nil)
    .nil)
    .nil))
    (.cons (.ife (.val (.cmp .eq (.var 1) (.cst (.int 0))))
    (.cons .nvr
    .nil)
    .nil)
    (.cons (.ret (.call ("share" : Str) 3 (.cons (.var 0) (.cons (.var 1) .nil))))
    .nil)))⟩
/-- added -/
def n_18 : List Str := [("one" : Str), ("other" : Str)]
def p_18 : List Str := [("one" : Str), ("other" : Str)]
def d_18 : FD := ⟨2, 2, (.cons (.exp (.call ("require_two" : Str) 14 (.cons (.var 0) (.cons (.var 1) .nil))))
    (.cons (.ret (.call ("plus" : Str) 4 (.cons (.var 0) (.cons (.var 1) .nil))))
    .nil))⟩
/-- less -/
def n_19 : List Str := [("one" : Str), ("other" : Str)]
def p_19 : List Str := [("one" : Str), ("other" : Str)]
def d_19 : FD := ⟨2, 2, (.cons (.exp (.call ("require_two" : Str) 14 (.cons (.var 0) (.cons (.var 1) .nil))))
    (.cons (.ret (.call ("minus" : Str) 5 (.cons (.var 0) (.cons (.var 1) .nil))))
    .nil))⟩
/-- multiplied -/
def n_20 : List Str := [("one" : Str), ("other" : Str)]
def p_20 : List Str := [("one" : Str), ("other" : Str)]
def d_20 : FD := ⟨2, 2, (.cons (.exp (.call ("require_two" : Str) 14 (.cons (.var 0) (.cons (.var 1) .nil))))
    (.cons (.ret (.call ("times" : Str) 6 (.cons (.var 0) (.cons (.var 1) .nil))))
    .nil))⟩
/-- divided -/
def n_21 : List Str := [("one" : Str), ("other" : Str)]
def p_21 : List Str := [("one" : Str), ("other" : Str)]
def d_21 : FD := ⟨2, 2, (.cons (.exp (.call ("require_two" : Str) 14 (.cons (.var 0) (.cons (.var 1) .nil))))
    (.cons (.ife (.val (.cmp .eq (.idx (.var 1) (.cst (.int 0))) (.cst (.int 0))))
    (.cons .nvr
    .nil)
    .nil)
    (.cons (.ret (.call ("over" : Str) 7 (.cons (.var 0) (.cons (.var 1) .nil))))
    .nil)))⟩
/-- compared -/
def n_22 : List Str := [("one" : Str), ("other" : Str)]
def p_22 : List Str := [("one" : Str), ("other" : Str)]
def d_22 : FD := ⟨2, 2, (.cons (.exp (.call ("require_two" : Str) 14 (.cons (.var 0) (.cons (.var 1) .nil))))
    (.cons (.ret (.bin .sub (.blt .int (.cons (.call ("is_less" : Str) 8 (.cons (.var 1) (.cons (.var 0) .nil))) .nil)) (.blt .int (.cons (.call ("is_less" : Str) 8 (.cons (.var 0) (.cons (.var 1) .nil))) .nil))))
    .nil))⟩
/-- least_of -/
def n_23 : List Str := [("fractions" : Str), ("found" : Str), ("one" : Str)]
def p_23 : List Str := [("fractions" : Str)]
def d_23 : FD := ⟨1, 3, (.cons (.exp (.call ("require_fractions" : Str) 15 (.cons (.var 0) .nil)))
    (.cons (.ife (.val (.cmp .eq (.var 0) (.tup .nil)))
    (.cons .nvr
    .nil)
    .nil)
    (.cons (.asg (.nm 1) (.idx (.var 0) (.cst (.int 0))))
    (.cons (.loop (.nm 2) (.sq (.var 0))
    (.cons (.asg (.nm 1) (.call ("small" : Str) 9 (.cons (.var 1) (.cons (.var 2) .nil))))
    .nil))
    (.cons (.ret (.var 1))
    .nil)))))⟩
/-- summed -/
def n_24 : List Str := [("fractions" : Str)]
def p_24 : List Str := [("fractions" : Str)]
def d_24 : FD := ⟨1, 1, (.cons (.exp (.call ("require_fractions" : Str) 15 (.cons (.var 0) .nil)))
    (.cons (.ret (.call ("total_of" : Str) 10 (.cons (.var 0) .nil)))
    .nil))⟩
/-- _law_bowl -/
def n_25 : List Str := [("script" : Str), ("spot" : Str), ("cell" : Str), ("great" : Str)]
def p_25 : List Str := [("script" : Str), ("spot" : Str)]
def d_25 : FD := ⟨2, 4, (.cons (.asg (.nm 2) (.ife (.val (.cmp .lt (.var 1) (.blt .len (.cons (.var 0) .nil)))) (.blt .int (.cons (.idx (.var 0) (.var 1)) .nil)) (.bin .add (.bin .add (.bin .mul (.cst (.int 7309)) (.var 1)) (.cst (.int 83))) (.bin .mod (.blt .int (.cons (.blt .sum (.cons (.sli (.var 0) (.cst .non) (.cst (.int 1))) .nil)) .nil)) (.cst (.int 1000003))))))
    (.cons (.asg (.nm 3) (.bin .mod (.blt .int (.cons (.blt .abs (.cons (.var 2) .nil)) .nil)) (.bin .pow (.bin .pow (.cst (.int 10)) (.cst (.int 57))) (.cst (.int 6)))))
    (.cons (.ret (.fr true (.dsp (.cons (.blt .max2 (.cons (.cst (.int 0)) (.cons (.bin .sub (.var 3) (.bin .pow (.cst (.int 10)) (.cst (.int 15)))) .nil))) (.cons (.bin .add (.bin .add (.bin .add (.bin .mul (.bin .mod (.blt .int (.cons (.var 3) .nil)) (.cst (.int 2147483563))) (.cst (.int 397))) (.bin .mul (.cst (.int 617)) (.var 1))) (.bin .mul (.cst (.int 29)) (.blt .int (.cons (.cmp .lt (.var 2) (.cst (.int 0))) .nil)))) (.cst (.int 11))) (.cons (.cst (.int 0)) .nil))))))
    .nil)))⟩
/-- _law_scoop -/
def n_26 : List Str := [("bowl" : Str), ("total" : Str), ("found" : Str), ("one" : Str), ("two" : Str)]
def p_26 : List Str := [("bowl" : Str), ("total" : Str)]
def d_26 : FD := ⟨2, 5, (.cons (.ife (.val (.cmp .gt (.idx (.var 0) (.cst (.int 0))) (.cst (.int 0))))
    (.cons (.asg (.nm 2) (.bin .mod (.blt .int (.cons (.idx (.var 0) (.cst (.int 0))) .nil)) (.var 1)))
    (.cons (.put (.var 0) (.cst (.int 0)) (.bin .fdiv (.idx (.var 0) (.cst (.int 0))) (.var 1)))
    (.cons (.ret (.var 2))
    .nil)))
    .nil)
    (.cons (.put (.var 0) (.cst (.int 2)) (.bin .add (.idx (.var 0) (.cst (.int 2))) (.cst (.int 1))))
    (.cons (.asg (.nm 3) (.bin .mod (.blt .int (.cons (.bin .add (.idx (.var 0) (.cst (.int 1))) (.bin .mul (.cst (.int 9699809)) (.idx (.var 0) (.cst (.int 2))))) .nil)) (.cst (.int 2305843009213693951))))
    (.cons (.asg (.nm 4) (.bin .add (.bin .mul (.bin .mod (.blt .int (.cons (.bin .add (.bin .mul (.var 3) (.var 3)) (.bin .mul (.cst (.int 499)) (.idx (.var 0) (.cst (.int 2))))) .nil)) (.cst (.int 2305843009213693921))) (.cst (.int 5800087))) (.var 3)))
    (.cons (.ret (.bin .mod (.blt .int (.cons (.bin .fdiv (.var 4) (.cst (.int 65537))) .nil)) (.var 1)))
    .nil)))))⟩
/-- _law_one_of -/
def n_27 : List Str := [("bowl" : Str), ("items" : Str)]
def p_27 : List Str := [("bowl" : Str), ("items" : Str)]
def d_27 : FD := ⟨2, 2, (.cons (.ret (.idx (.var 1) (.call ("_law_scoop" : Str) 26 (.cons (.var 0) (.cons (.blt .len (.cons (.var 1) .nil)) .nil)))))
    .nil)⟩
/-- _law_common -/
def n_28 : List Str := [("one" : Str), ("other" : Str)]
def p_28 : List Str := [("one" : Str), ("other" : Str)]
def d_28 : FD := ⟨2, 2, (.cons (.par [0, 1] [(.e (.blt .abs (.cons (.var 0) .nil))), (.e (.blt .abs (.cons (.var 1) .nil)))])
    (.cons (.whl (.val (.cmp .gt (.var 1) (.cst (.int 0))))
    (.cons (.par [0, 1] [(.e (.var 1)), (.e (.bin .mod (.blt .int (.cons (.var 0) .nil)) (.var 1)))])
    .nil))
    (.cons (.ret (.var 0))
    .nil)))⟩
/-- _law_share -/
def n_29 : List Str := [("top" : Str), ("bottom" : Str), ("common" : Str)]
def p_29 : List Str := [("top" : Str), ("bottom" : Str)]
def d_29 : FD := ⟨2, 3, (.cons (.asg (.nm 2) (.bin .mul (.call ("_law_common" : Str) 28 (.cons (.var 0) (.cons (.var 1) .nil))) (.ife (.val (.cmp .gt (.var 1) (.cst (.int 0)))) (.cst (.int 1)) (.neg (.cst (.int 1))))))
    (.cons (.ret (.tup (.cons (.bin .fdiv (.blt .int (.cons (.var 0) .nil)) (.var 2)) (.cons (.bin .fdiv (.blt .int (.cons (.var 1) .nil)) (.var 2)) .nil))))
    .nil))⟩
/-- _law_plus -/
def n_30 : List Str := [("one" : Str), ("other" : Str)]
def p_30 : List Str := [("one" : Str), ("other" : Str)]
def d_30 : FD := ⟨2, 2, (.cons (.ret (.call ("_law_share" : Str) 29 (.cons (.bin .add (.bin .mul (.idx (.var 0) (.cst (.int 0))) (.idx (.var 1) (.cst (.int 1)))) (.bin .mul (.idx (.var 1) (.cst (.int 0))) (.idx (.var 0) (.cst (.int 1))))) (.cons (.bin .mul (.idx (.var 0) (.cst (.int 1))) (.idx (.var 1) (.cst (.int 1)))) .nil))))
    .nil)⟩
/-- _law_minus -/
def n_31 : List Str := [("one" : Str), ("other" : Str)]
def p_31 : List Str := [("one" : Str), ("other" : Str)]
def d_31 : FD := ⟨2, 2, (.cons (.ret (.call ("_law_share" : Str) 29 (.cons (.bin .sub (.bin .mul (.idx (.var 0) (.cst (.int 0))) (.idx (.var 1) (.cst (.int 1)))) (.bin .mul (.idx (.var 1) (.cst (.int 0))) (.idx (.var 0) (.cst (.int 1))))) (.cons (.bin .mul (.idx (.var 0) (.cst (.int 1))) (.idx (.var 1) (.cst (.int 1)))) .nil))))
    .nil)⟩
/-- _law_times -/
def n_32 : List Str := [("one" : Str), ("other" : Str)]
def p_32 : List Str := [("one" : Str), ("other" : Str)]
def d_32 : FD := ⟨2, 2, (.cons (.ret (.call ("_law_share" : Str) 29 (.cons (.bin .mul (.idx (.var 0) (.cst (.int 0))) (.idx (.var 1) (.cst (.int 0)))) (.cons (.bin .mul (.idx (.var 0) (.cst (.int 1))) (.idx (.var 1) (.cst (.int 1)))) .nil))))
    .nil)⟩
/-- _law_less -/
def n_33 : List Str := [("one" : Str), ("other" : Str)]
def p_33 : List Str := [("one" : Str), ("other" : Str)]
def d_33 : FD := ⟨2, 2, (.cons (.ret (.cmp .lt (.bin .mul (.idx (.var 0) (.cst (.int 0))) (.idx (.var 1) (.cst (.int 1)))) (.bin .mul (.idx (.var 1) (.cst (.int 0))) (.idx (.var 0) (.cst (.int 1))))))
    .nil)⟩
/-- _law_is_fraction -/
def n_34 : List Str := [("value" : Str), ("one" : Str)]
def p_34 : List Str := [("value" : Str)]
def d_34 : FD := ⟨1, 2, (.cons (.ife (.or (.not (.val (.isi (.var 0) ["tuple"]))) (.val (.cmp .ne (.blt .len (.cons (.var 0) .nil)) (.cst (.int 2)))))
    (.cons (.ret (.cst (.bl false)))
    .nil)
    .nil)
    (.cons (.ife (.val (.cmp .ne (.fr false (.lc [(("one" : Str), 1)] (.nm 1) (.sq (.var 0)) (.or (.not (.val (.isi (.var 1) ["int"]))) (.val (.isi (.var 1) ["bool"]))) (.cst (.int 1)))) (.fr false (.dsp .nil))))
    (.cons (.ret (.cst (.bl false)))
    .nil)
    .nil)
    (.cons (.ret (.andV (.cmp .gt (.idx (.var 0) (.cst (.int 1))) (.cst (.int 0))) (.cmp .eq (.call ("_law_common" : Str) 28 (.cons (.idx (.var 0) (.cst (.int 0))) (.cons (.idx (.var 0) (.cst (.int 1))) .nil))) (.cst (.int 1)))))
    .nil)))⟩
/-- _law_drawn -/
def n_35 : List Str := [("bowl" : Str), ("size" : Str), ("wide" : Str)]
def p_35 : List Str := [("bowl" : Str)]
def d_35 : FD := ⟨1, 3, (.cons (.par [1, 2] [(.e (.call ("_law_one_of" : Str) 27 (.cons (.var 0) (.cons (.fr false (.dsp (.cons (.cst (.int 3)) (.cons (.cst (.int 12)) (.cons (.cst (.int 100)) (.cons (.bin .pow (.cst (.int 10)) (.cst (.int 14))) .nil)))))) .nil)))), (.e (.call ("_law_one_of" : Str) 27 (.cons (.var 0) (.cons (.fr false (.dsp (.cons (.cst (.int 1)) (.cons (.cst (.int 4)) (.cons (.cst (.int 30)) (.cons (.bin .pow (.cst (.int 10)) (.cst (.int 14))) .nil)))))) .nil))))])
    (.cons (.ret (.call ("_law_share" : Str) 29 (.cons (.bin .sub (.call ("_law_scoop" : Str) 26 (.cons (.var 0) (.cons (.bin .add (.bin .mul (.cst (.int 2)) (.var 1)) (.cst (.int 1))) .nil))) (.var 1)) (.cons (.bin .add (.cst (.int 1)) (.call ("_law_scoop" : Str) 26 (.cons (.var 0) (.cons (.var 2) .nil)))) .nil))))
    .nil))⟩
/-- _law_order -/
def n_36 : List Str := [("one" : Str), ("other" : Str)]
def p_36 : List Str := [("one" : Str), ("other" : Str)]
def d_36 : FD := ⟨2, 2, (.cons (.ret (.bin .sub (.blt .int (.cons (.call ("_law_less" : Str) 33 (.cons (.var 1) (.cons (.var 0) .nil))) .nil)) (.blt .int (.cons (.call ("_law_less" : Str) 33 (.cons (.var 0) (.cons (.var 1) .nil))) .nil))))
    .nil)⟩
/-- _law_right -/
def n_37 : List Str := [("bowl" : Str), ("one" : Str), ("other" : Str), ("third" : Str), ("due" : Str), ("told" : Str), ("some" : Str), ("turn" : Str), ("whole" : Str), ("low" : Str), ("part" : Str), ("more" : Str), ("near" : Str), ("value" : Str)]
def p_37 : List Str := [("bowl" : Str)]
def d_37 : FD := ⟨1, 14, (.cons (.par [1, 2, 3] [(.e (.call ("_law_drawn" : Str) 35 (.cons (.var 0) .nil))), (.e (.call ("_law_drawn" : Str) 35 (.cons (.var 0) .nil))), (.e (.call ("_law_drawn" : Str) 35 (.cons (.var 0) .nil)))])
    (.cons (.asg (.nm 4) (.fr false (.dsp (.cons (.call ("_law_plus" : Str) 30 (.cons (.var 1) (.cons (.var 2) .nil))) (.cons (.call ("_law_minus" : Str) 31 (.cons (.var 1) (.cons (.var 2) .nil))) (.cons (.call ("_law_times" : Str) 32 (.cons (.var 1) (.cons (.var 2) .nil))) (.cons (.call ("_law_order" : Str) 36 (.cons (.var 1) (.cons (.var 2) .nil))) .nil)))))))
    (.cons (.ife (.val (.cmp .ne (.blt .repr (.cons (.fr false (.dsp (.cons (.call ("added" : Str) 18 (.cons (.var 1) (.cons (.var 2) .nil))) (.cons (.call ("less" : Str) 19 (.cons (.var 1) (.cons (.var 2) .nil))) (.cons (.call ("multiplied" : Str) 20 (.cons (.var 1) (.cons (.var 2) .nil))) (.cons (.call ("compared" : Str) 22 (.cons (.var 1) (.cons (.var 2) .nil))) .nil)))))) .nil)) (.blt .repr (.cons (.var 4) .nil))))
    (.cons (.ret (.cst (.bl false)))
    .nil)
    .nil)
    (.cons (.ife (.val (.cmp .ne (.var 2) (.tup (.cons (.cst (.int 0)) (.cons (.cst (.int 1)) .nil)))))
    (.cons (.asg (.nm 5) (.call ("divided" : Str) 21 (.cons (.var 1) (.cons (.var 2) .nil))))
    (.cons (.ife (.or (.val (.cmp .ne (.blt .repr (.cons (.var 5) .nil)) (.blt .repr (.cons (.call ("_law_share" : Str) 29 (.cons (.bin .mul (.idx (.var 1) (.cst (.int 0))) (.idx (.var 2) (.cst (.int 1)))) (.cons (.bin .mul (.idx (.var 1) (.cst (.int 1))) (.idx (.var 2) (.cst (.int 0)))) .nil))) .nil)))) (.val (.cmp .ne (.call ("multiplied" : Str) 20 (.cons (.var 5) (.cons (.var 2) .nil))) (.var 1))))
    (.cons (.ret (.cst (.bl false)))
    .nil)
    .nil)
    .nil))
    .nil)
    (.cons (.ife (.val (.cmp .ne (.call ("less" : Str) 19 (.cons (.call ("added" : Str) 18 (.cons (.var 1) (.cons (.var 2) .nil))) (.cons (.var 2) .nil))) (.var 1)))
    (.cons (.ret (.cst (.bl false)))
    .nil)
    .nil)
    (.cons (.ife (.val (.cmp .ne (.call ("added" : Str) 18 (.cons (.call ("multiplied" : Str) 20 (.cons (.var 1) (.cons (.var 3) .nil))) (.cons (.call ("multiplied" : Str) 20 (.cons (.var 2) (.cons (.var 3) .nil))) .nil))) (.call ("multiplied" : Str) 20 (.cons (.idx (.var 4) (.cst (.int 0))) (.cons (.var 3) .nil)))))
    (.cons (.ret (.cst (.bl false)))
    .nil)
    .nil)
    (.cons (.asg (.nm 6) (.sli (.tup (.cons (.var 1) (.cons (.var 2) (.cons (.var 3) .nil)))) (.cst .non) (.bin .add (.cst (.int 1)) (.call ("_law_scoop" : Str) 26 (.cons (.var 0) (.cons (.cst (.int 3)) .nil))))))
    (.cons (.asg (.nm 6) (.bin .add (.var 6) (.blt .tuple (.cons (.fr false (.lc [(("turn" : Str), 7)] (.nm 7) (.rng1 (.call ("_law_scoop" : Str) 26 (.cons (.var 0) (.cons (.cst (.int 4)) .nil)))) .yes (.call ("_law_drawn" : Str) 35 (.cons (.var 0) .nil)))) .nil))))
    (.cons (.par [8, 9] [(.e (.tup (.cons (.cst (.int 0)) (.cons (.cst (.int 1)) .nil)))), (.e (.idx (.var 6) (.cst (.int 0))))])
    (.cons (.loop (.nm 10) (.sq (.var 6))
    (.cons (.par [8, 9] [(.e (.call ("_law_plus" : Str) 30 (.cons (.var 8) (.cons (.var 10) .nil)))), (.e (.ife (.val (.call ("_law_less" : Str) 33 (.cons (.var 10) (.cons (.var 9) .nil)))) (.var 10) (.var 9)))])
    .nil))
    (.cons (.ife (.val (.cmp .ne (.blt .repr (.cons (.fr false (.dsp (.cons (.call ("summed" : Str) 24 (.cons (.var 6) .nil)) (.cons (.call ("least_of" : Str) 23 (.cons (.var 6) .nil)) (.cons (.call ("summed" : Str) 24 (.cons (.tup .nil) .nil)) .nil))))) .nil)) (.blt .repr (.cons (.fr false (.dsp (.cons (.var 8) (.cons (.var 9) (.cons (.tup (.cons (.cst (.int 0)) (.cons (.cst (.int 1)) .nil))) .nil))))) .nil))))
    (.cons (.ret (.cst (.bl false)))
    .nil)
    .nil)
    (.cons (.asg (.nm 11) (.call ("_law_one_of" : Str) 27 (.cons (.var 0) (.cons (.fr false (.dsp (.cons (.cst (.int 1)) (.cons (.cst (.int 2)) (.cons (.cst (.int 6)) (.cons (.neg (.cst (.int 1))) (.cons (.neg (.cst (.int 35))) (.cons (.bin .pow (.cst (.int 10)) (.cst (.int 20))) .nil)))))))) .nil))))
    (.cons (.ife (.val (.cmp .ne (.blt .repr (.cons (.call ("fraction" : Str) 17 (.cons (.bin .mul (.idx (.var 1) (.cst (.int 0))) (.var 11)) (.cons (.bin .mul (.idx (.var 1) (.cst (.int 1))) (.var 11)) .nil))) .nil)) (.blt .repr (.cons (.var 1) .nil))))
    (.cons (.ret (.cst (.bl false)))
    .nil)
    .nil)
    (.cons (.asg (.nm 12) (.fr false (.dsp (.cons (.var 1) (.cons (.tup (.cons (.bin .mul (.idx (.var 1) (.cst (.int 0))) (.cst (.int 2))) (.cons (.bin .mul (.idx (.var 1) (.cst (.int 1))) (.cst (.int 2))) .nil))) (.cons (.tup (.cons (.bin .sub (.cst (.int 0)) (.idx (.var 1) (.cst (.int 0)))) (.cons (.bin .sub (.cst (.int 0)) (.idx (.var 1) (.cst (.int 1)))) .nil))) (.cons (.blt .list (.cons (.var 1) .nil)) (.cons (.bin .add (.var 1) (.tup (.cons (.cst (.int 1)) .nil))) (.cons (.sli (.var 1) (.cst .non) (.cst (.int 1))) (.cons (.idx (.var 1) (.cst (.int 0))) (.cons (.blt .str (.cons (.var 1) .nil)) .nil)))))))))))
    (.cons (.asg (.nm 12) (.bin .add (.var 12) (.fr false (.dsp (.cons (.cst .non) (.cons (.tup (.cons (.cst (.int 0)) (.cons (.cst (.int 2)) .nil))) (.cons (.tup (.cons (.cst (.int 1)) (.cons (.cst (.int 0)) .nil))) (.cons (.tup (.cons (.cst (.bl true)) (.cons (.cst (.int 1)) .nil))) (.cons (.tup (.cons (.cst (.int 1)) (.cons (.cst (.bl true)) .nil))) (.cons (.tup (.cons (.bin .add (.bin .mul (.idx (.var 1) (.cst (.int 0))) (.bin .pow (.cst (.int 10)) (.cst (.int 60)))) (.cst (.int 1))) (.cons (.bin .pow (.cst (.int 10)) (.cst (.int 60))) .nil))) (.cons (.tup (.cons (.cst (.int 1)) (.cons (.bin .mul (.bin .pow (.cst (.int 10)) (.cst (.int 60))) (.bin .pow (.cst (.int 10)) (.cst (.int 20)))) .nil))) .nil)))))))))))
    (.cons (.asg (.nm 12) (.bin .add (.var 12) (.fr false (.dsp (.cons (.tup (.cons (.tup (.cons (.cst (.int 1)) (.cons (.cst (.int 2)) .nil))) (.cons (.cst (.int 1)) .nil))) (.cons (.tup (.cons (.cst (.int 0)) (.cons (.neg (.cst (.int 1))) .nil))) (.cons (.dnil) (.cons (.tup (.cons (.cst (.int 0)) (.cons (.cst (.int 1)) .nil))) (.cons (.tup (.cons (.cst .non) (.cons (.cst (.int 1)) .nil))) (.cons (.tup (.cons (.cst (.str "1")) (.cons (.cst (.int 1)) .nil))) .nil))))))))))
    (.cons (.ret (.cmp .eq (.fr false (.lc [(("value" : Str), 13)] (.nm 13) (.sq (.var 12)) (.val (.cmp .ne (.blt .repr (.cons (.call ("is_fraction" : Str) 16 (.cons (.var 13) .nil)) .nil)) (.blt .repr (.cons (.call ("_law_is_fraction" : Str) 34 (.cons (.var 13) .nil)) .nil)))) (.var 13))) (.fr false (.dsp .nil))))
    .nil)))))))))))))))))⟩
/-- law -/
def n_38 : List Str := [("script" : Str), ("spot" : Str), ("bowl" : Str), ("turn" : Str), ("far" : Str), ("told" : Str)]
def p_38 : List Str := [("script" : Str)]
def d_38 : FD := ⟨1, 6, (.cons (.loop (.nm 1) (.rng1 (.blt .max2 (.cons (.cst (.int 1)) (.cons (.blt .min2 (.cons (.cst (.int 4)) (.cons (.blt .len (.cons (.var 0) .nil)) .nil))) .nil))))
    (.cons (.asg (.nm 2) (.call ("_law_bowl" : Str) 25 (.cons (.var 0) (.cons (.var 1) .nil))))
    (.cons (.ife (.val (.cmp .ne (.fr false (.lc [(("turn" : Str), 3)] (.nm 3) (.rng1 (.cst (.int 4))) (.not (.val (.call ("_law_right" : Str) 37 (.cons (.var 2) .nil)))) (.var 3))) (.fr false (.dsp .nil))))
    (.cons (.ret (.cst (.bl false)))
    .nil)
    .nil)
    .nil)))
    (.cons (.asg (.nm 4) (.bin .pow (.cst (.int 10)) (.cst (.int 29))))
    (.cons (.own 5 (.dsp (.cons (.call ("compared" : Str) 22 (.cons (.tup (.cons (.cst (.int 5)) (.cons (.cst (.int 4)) .nil))) (.cons (.tup (.cons (.cst (.int 4)) (.cons (.cst (.int 3)) .nil))) .nil))) (.cons (.call ("compared" : Str) 22 (.cons (.tup (.cons (.neg (.cst (.int 1))) (.cons (.cst (.int 2)) .nil))) (.cons (.tup (.cons (.neg (.cst (.int 1))) (.cons (.cst (.int 3)) .nil))) .nil))) (.cons (.call ("compared" : Str) 22 (.cons (.tup (.cons (.var 4) (.cons (.bin .add (.var 4) (.cst (.int 1))) .nil))) (.cons (.tup (.cons (.bin .add (.var 4) (.cst (.int 1))) (.cons (.bin .add (.var 4) (.cst (.int 2))) .nil))) .nil))) .nil)))))
    (.cons (.exp (.app (.brw 5) (.call ("compared" : Str) 22 (.cons (.tup (.cons (.cst (.int 0)) (.cons (.cst (.int 1)) .nil))) (.cons (.tup (.cons (.neg (.cst (.int 1))) (.cons (.var 4) .nil))) .nil)))))
    (.cons (.ife (.or (.val (.cmp .ne (.brw 5) (.fr false (.dsp (.cons (.neg (.cst (.int 1))) (.cons (.neg (.cst (.int 1))) (.cons (.neg (.cst (.int 1))) (.cons (.cst (.int 1)) .nil)))))))) (.val (.cmp .ne (.call ("least_of" : Str) 23 (.cons (.tup (.cons (.tup (.cons (.bin .add (.var 4) (.cst (.int 1))) (.cons (.bin .add (.var 4) (.cst (.int 2))) .nil))) (.cons (.tup (.cons (.var 4) (.cons (.bin .add (.var 4) (.cst (.int 1))) .nil))) .nil))) .nil)) (.tup (.cons (.var 4) (.cons (.bin .add (.var 4) (.cst (.int 1))) .nil))))))
    (.cons (.ret (.cst (.bl false)))
    .nil)
    .nil)
    (.cons (.ret (.cmp .eq (.fr false (.dsp (.cons (.call ("fraction" : Str) 17 (.cons (.cst (.int 6)) (.cons (.neg (.cst (.int 4))) .nil))) (.cons (.call ("fraction" : Str) 17 (.cons (.cst (.int 0)) (.cons (.neg (.cst (.int 7))) .nil))) (.cons (.call ("added" : Str) 18 (.cons (.tup (.cons (.cst (.int 1)) (.cons (.cst (.int 2)) .nil))) (.cons (.tup (.cons (.cst (.int 1)) (.cons (.cst (.int 3)) .nil))) .nil))) (.cons (.call ("less" : Str) 19 (.cons (.tup (.cons (.cst (.int 1)) (.cons (.cst (.int 3)) .nil))) (.cons (.tup (.cons (.cst (.int 1)) (.cons (.cst (.int 2)) .nil))) .nil))) .nil)))))) (.fr false (.dsp (.cons (.tup (.cons (.neg (.cst (.int 3))) (.cons (.cst (.int 2)) .nil))) (.cons (.tup (.cons (.cst (.int 0)) (.cons (.cst (.int 1)) .nil))) (.cons (.tup (.cons (.cst (.int 5)) (.cons (.cst (.int 6)) .nil))) (.cons (.tup (.cons (.neg (.cst (.int 1))) (.cons (.cst (.int 6)) .nil))) .nil))))))))
    .nil))))))⟩
def pg : Nat → Option FD
  | 0 => some d_0
  | 1 => some d_1
  | 2 => some d_2
  | 3 => some d_3
  | 4 => some d_4
  | 5 => some d_5
  | 6 => some d_6
  | 7 => some d_7
  | 8 => some d_8
  | 9 => some d_9
  | 10 => some d_10
  | 11 => some d_11
  | 12 => some d_12
  | 13 => some d_13
  | 14 => some d_14
  | 15 => some d_15
  | 16 => some d_16
  | 17 => some d_17
  | 18 => some d_18
  | 19 => some d_19
  | 20 => some d_20
  | 21 => some d_21
  | 22 => some d_22
  | 23 => some d_23
  | 24 => some d_24
  | 25 => some d_25
  | 26 => some d_26
  | 27 => some d_27
  | 28 => some d_28
  | 29 => some d_29
  | 30 => some d_30
  | 31 => some d_31
  | 32 => some d_32
  | 33 => some d_33
  | 34 => some d_34
  | 35 => some d_35
  | 36 => some d_36
  | 37 => some d_37
  | 38 => some d_38
  | _ => none
def gt : GT := ⟨[(("is_whole" : Str), 0), (("is_short" : Str), 1), (("is_pair" : Str), 2), (("share" : Str), 3), (("plus" : Str), 4), (("minus" : Str), 5), (("times" : Str), 6), (("over" : Str), 7), (("is_less" : Str), 8), (("small" : Str), 9), (("total_of" : Str), 10), (("is_share" : Str), 11), (("is_short_share" : Str), 12), (("require_fraction" : Str), 13), (("require_two" : Str), 14), (("require_fractions" : Str), 15), (("is_fraction" : Str), 16), (("fraction" : Str), 17), (("added" : Str), 18), (("less" : Str), 19), (("multiplied" : Str), 20), (("divided" : Str), 21), (("compared" : Str), 22), (("least_of" : Str), 23), (("summed" : Str), 24), (("_law_bowl" : Str), 25), (("_law_scoop" : Str), 26), (("_law_one_of" : Str), 27), (("_law_common" : Str), 28), (("_law_share" : Str), 29), (("_law_plus" : Str), 30), (("_law_minus" : Str), 31), (("_law_times" : Str), 32), (("_law_less" : Str), 33), (("_law_is_fraction" : Str), 34), (("_law_drawn" : Str), 35), (("_law_order" : Str), 36), (("_law_right" : Str), 37), (("law" : Str), 38)], fun i => ([1, 1, 1, 2, 2, 2, 2, 2, 2, 2, 1, 1, 1, 1, 2, 1, 1, 2, 2, 2, 2, 2, 2, 1, 1, 2, 2, 2, 2, 2, 2, 2, 2, 2, 1, 1, 2, 1, 1] : List Nat).getD i 0, [(("FAR" : Str), (.int 1000000000000000000000000000000000000000000000000000000000000)), (("PAIR_SIZE" : Str), (.int 2)), (("ZERO" : Str), (.tup [(.int 0), (.int 1)]))], [("abs" : Str), ("bool" : Str), ("gcd" : Str), ("int" : Str), ("isinstance" : Str), ("len" : Str), ("list" : Str), ("max" : Str), ("min" : Str), ("range" : Str), ("repr" : Str), ("str" : Str), ("sum" : Str), ("tuple" : Str)]⟩
theorem c_0 : chkSs ⟨gt, n_0, defScope (top 9), fun _ => true⟩ d_0.body (defBody (top 9)) = true := by decide +kernel
theorem c_1 : chkSs ⟨gt, n_1, defScope (top 10), fun _ => true⟩ d_1.body (defBody (top 10)) = true := by decide +kernel
theorem c_2 : chkSs ⟨gt, n_2, defScope (top 11), fun _ => true⟩ d_2.body (defBody (top 11)) = true := by decide +kernel
theorem c_3 : chkSs ⟨gt, n_3, defScope (top 14), fun _ => true⟩ d_3.body (defBody (top 14)) = true := by decide +kernel
theorem c_4 : chkSs ⟨gt, n_4, defScope (top 15), fun _ => true⟩ d_4.body (defBody (top 15)) = true := by decide +kernel
theorem c_5 : chkSs ⟨gt, n_5, defScope (top 16), fun _ => true⟩ d_5.body (defBody (top 16)) = true := by decide +kernel
theorem c_6 : chkSs ⟨gt, n_6, defScope (top 17), fun _ => true⟩ d_6.body (defBody (top 17)) = true := by decide +kernel
theorem c_7 : chkSs ⟨gt, n_7, defScope (top 18), fun _ => true⟩ d_7.body (defBody (top 18)) = true := by decide +kernel
theorem c_8 : chkSs ⟨gt, n_8, defScope (top 19), fun _ => true⟩ d_8.body (defBody (top 19)) = true := by decide +kernel
theorem c_9 : chkSs ⟨gt, n_9, defScope (top 20), fun _ => true⟩ d_9.body (defBody (top 20)) = true := by decide +kernel
theorem c_10 : chkSs ⟨gt, n_10, defScope (top 21), fun _ => true⟩ d_10.body (defBody (top 21)) = true := by decide +kernel
theorem c_11 : chkSs ⟨gt, n_11, defScope (top 22), fun _ => true⟩ d_11.body (defBody (top 22)) = true := by decide +kernel
theorem c_12 : chkSs ⟨gt, n_12, defScope (top 23), fun _ => true⟩ d_12.body (defBody (top 23)) = true := by decide +kernel
theorem c_13 : chkSs ⟨gt, n_13, defScope (top 26), fun _ => true⟩ d_13.body (defBody (top 26)) = true := by decide +kernel
theorem c_14 : chkSs ⟨gt, n_14, defScope (top 27), fun _ => true⟩ d_14.body (defBody (top 27)) = true := by decide +kernel
theorem c_15 : chkSs ⟨gt, n_15, defScope (top 28), fun _ => true⟩ d_15.body (defBody (top 28)) = true := by decide +kernel
theorem c_16 : chkSs ⟨gt, n_16, defScope (top 29), fun _ => true⟩ d_16.body (defBody (top 29)) = true := by decide +kernel
theorem c_17 : chkSs ⟨gt, n_17, defScope (top 30), fun _ => true⟩ d_17.body (defBody (top 30)) = true := by decide +kernel
theorem c_18 : chkSs ⟨gt, n_18, defScope (top 31), fun _ => true⟩ d_18.body (defBody (top 31)) = true := by decide +kernel
theorem c_19 : chkSs ⟨gt, n_19, defScope (top 32), fun _ => true⟩ d_19.body (defBody (top 32)) = true := by decide +kernel
theorem c_20 : chkSs ⟨gt, n_20, defScope (top 33), fun _ => true⟩ d_20.body (defBody (top 33)) = true := by decide +kernel
theorem c_21 : chkSs ⟨gt, n_21, defScope (top 34), fun _ => true⟩ d_21.body (defBody (top 34)) = true := by decide +kernel
theorem c_22 : chkSs ⟨gt, n_22, defScope (top 35), fun _ => true⟩ d_22.body (defBody (top 35)) = true := by decide +kernel
theorem c_23 : chkSs ⟨gt, n_23, defScope (top 36), fun _ => true⟩ d_23.body (defBody (top 36)) = true := by decide +kernel
theorem c_24 : chkSs ⟨gt, n_24, defScope (top 37), fun _ => true⟩ d_24.body (defBody (top 37)) = true := by decide +kernel
theorem c_25 : chkSs ⟨gt, n_25, defScope (top 39), fun _ => true⟩ d_25.body (defBody (top 39)) = true := by decide +kernel
theorem c_26 : chkSs ⟨gt, n_26, defScope (top 40), fun _ => true⟩ d_26.body (defBody (top 40)) = true := by decide +kernel
theorem c_27 : chkSs ⟨gt, n_27, defScope (top 41), fun _ => true⟩ d_27.body (defBody (top 41)) = true := by decide +kernel
theorem c_28 : chkSs ⟨gt, n_28, defScope (top 42), fun _ => true⟩ d_28.body (defBody (top 42)) = true := by decide +kernel
theorem c_29 : chkSs ⟨gt, n_29, defScope (top 43), fun _ => true⟩ d_29.body (defBody (top 43)) = true := by decide +kernel
theorem c_30 : chkSs ⟨gt, n_30, defScope (top 44), fun _ => true⟩ d_30.body (defBody (top 44)) = true := by decide +kernel
theorem c_31 : chkSs ⟨gt, n_31, defScope (top 45), fun _ => true⟩ d_31.body (defBody (top 45)) = true := by decide +kernel
theorem c_32 : chkSs ⟨gt, n_32, defScope (top 46), fun _ => true⟩ d_32.body (defBody (top 46)) = true := by decide +kernel
theorem c_33 : chkSs ⟨gt, n_33, defScope (top 47), fun _ => true⟩ d_33.body (defBody (top 47)) = true := by decide +kernel
theorem c_34 : chkSs ⟨gt, n_34, defScope (top 48), fun _ => true⟩ d_34.body (defBody (top 48)) = true := by decide +kernel
theorem c_35 : chkSs ⟨gt, n_35, defScope (top 49), fun _ => true⟩ d_35.body (defBody (top 49)) = true := by decide +kernel
theorem c_36 : chkSs ⟨gt, n_36, defScope (top 50), fun _ => true⟩ d_36.body (defBody (top 50)) = true := by decide +kernel
theorem c_37 : chkSs ⟨gt, n_37, defScope (top 51), fun _ => true⟩ d_37.body (defBody (top 51)) = true := by decide +kernel
theorem c_38 : chkSs ⟨gt, n_38, defScope (top 52), fun _ => true⟩ d_38.body (defBody (top 52)) = true := by decide +kernel
theorem s_0 : fnScB n_0 p_0 (defScope (top 9)) = true := by decide +kernel
theorem s_1 : fnScB n_1 p_1 (defScope (top 10)) = true := by decide +kernel
theorem s_2 : fnScB n_2 p_2 (defScope (top 11)) = true := by decide +kernel
theorem s_3 : fnScB n_3 p_3 (defScope (top 14)) = true := by decide +kernel
theorem s_4 : fnScB n_4 p_4 (defScope (top 15)) = true := by decide +kernel
theorem s_5 : fnScB n_5 p_5 (defScope (top 16)) = true := by decide +kernel
theorem s_6 : fnScB n_6 p_6 (defScope (top 17)) = true := by decide +kernel
theorem s_7 : fnScB n_7 p_7 (defScope (top 18)) = true := by decide +kernel
theorem s_8 : fnScB n_8 p_8 (defScope (top 19)) = true := by decide +kernel
theorem s_9 : fnScB n_9 p_9 (defScope (top 20)) = true := by decide +kernel
theorem s_10 : fnScB n_10 p_10 (defScope (top 21)) = true := by decide +kernel
theorem s_11 : fnScB n_11 p_11 (defScope (top 22)) = true := by decide +kernel
theorem s_12 : fnScB n_12 p_12 (defScope (top 23)) = true := by decide +kernel
theorem s_13 : fnScB n_13 p_13 (defScope (top 26)) = true := by decide +kernel
theorem s_14 : fnScB n_14 p_14 (defScope (top 27)) = true := by decide +kernel
theorem s_15 : fnScB n_15 p_15 (defScope (top 28)) = true := by decide +kernel
theorem s_16 : fnScB n_16 p_16 (defScope (top 29)) = true := by decide +kernel
theorem s_17 : fnScB n_17 p_17 (defScope (top 30)) = true := by decide +kernel
theorem s_18 : fnScB n_18 p_18 (defScope (top 31)) = true := by decide +kernel
theorem s_19 : fnScB n_19 p_19 (defScope (top 32)) = true := by decide +kernel
theorem s_20 : fnScB n_20 p_20 (defScope (top 33)) = true := by decide +kernel
theorem s_21 : fnScB n_21 p_21 (defScope (top 34)) = true := by decide +kernel
theorem s_22 : fnScB n_22 p_22 (defScope (top 35)) = true := by decide +kernel
theorem s_23 : fnScB n_23 p_23 (defScope (top 36)) = true := by decide +kernel
theorem s_24 : fnScB n_24 p_24 (defScope (top 37)) = true := by decide +kernel
theorem s_25 : fnScB n_25 p_25 (defScope (top 39)) = true := by decide +kernel
theorem s_26 : fnScB n_26 p_26 (defScope (top 40)) = true := by decide +kernel
theorem s_27 : fnScB n_27 p_27 (defScope (top 41)) = true := by decide +kernel
theorem s_28 : fnScB n_28 p_28 (defScope (top 42)) = true := by decide +kernel
theorem s_29 : fnScB n_29 p_29 (defScope (top 43)) = true := by decide +kernel
theorem s_30 : fnScB n_30 p_30 (defScope (top 44)) = true := by decide +kernel
theorem s_31 : fnScB n_31 p_31 (defScope (top 45)) = true := by decide +kernel
theorem s_32 : fnScB n_32 p_32 (defScope (top 46)) = true := by decide +kernel
theorem s_33 : fnScB n_33 p_33 (defScope (top 47)) = true := by decide +kernel
theorem s_34 : fnScB n_34 p_34 (defScope (top 48)) = true := by decide +kernel
theorem s_35 : fnScB n_35 p_35 (defScope (top 49)) = true := by decide +kernel
theorem s_36 : fnScB n_36 p_36 (defScope (top 50)) = true := by decide +kernel
theorem s_37 : fnScB n_37 p_37 (defScope (top 51)) = true := by decide +kernel
theorem s_38 : fnScB n_38 p_38 (defScope (top 52)) = true := by decide +kernel
def deep : Nat := 30
def gx0 : Gx := ⟨fun _ => .none, fun _ => ""⟩
end Lk

namespace Lk
open PySem Mi
/-- a fraction in lowest terms -/
def fr (q : Rat) : IV := .tup [.int q.num, .int (q.den : Int)]
def B (k : Nat) (x : Int) : Prop := x.natAbs < 2 ^ k
theorem B.mono {k l : Nat} {x : Int} (h : B k x) (hl : k ≤ l) : B l x := Nat.lt_of_lt_of_le h (Nat.pow_le_pow_right (by decide) hl)
theorem B.mul {k l : Nat} {x y : Int} (h : B k x) (g : B l y) : B (k + l) (x * y) := by
  unfold B at *
  rw [Int.natAbs_mul, Nat.pow_add]
  rcases Nat.eq_zero_or_pos x.natAbs with e | e
  · rw [e, Nat.zero_mul]; exact Nat.mul_pos (Nat.pow_pos (by decide)) (Nat.pow_pos (by decide))
  · exact Nat.mul_lt_mul'' h g
theorem B.add {k : Nat} {x y : Int} (h : B k x) (g : B k y) : B (k + 1) (x + y) := by
  unfold B at *
  rw [Nat.pow_succ]
  have := Int.natAbs_add_le x y
  omega
theorem B.neg {k : Nat} {x : Int} (h : B k x) : B k (-x) := by
  unfold B at *
  rw [Int.natAbs_neg]; exact h
theorem B.sub {k : Nat} {x y : Int} (h : B k x) (g : B k y) : B (k + 1) (x - y) := by
  rw [Int.sub_eq_add_neg]; exact h.add g.neg
theorem log_lt {k n : Nat} (hk : 0 < k) (h : n < 2 ^ k) : n.log2 < k := by
  rcases Nat.eq_zero_or_pos n with e | e
  · subst e; simpa using hk
  · exact (Nat.log2_lt (by omega)).mpr h
theorem mulOk_of {k l : Nat} {x y : Int} (h : B k x) (g : B l y) (hk : 0 < k := by decide) (hl : 0 < l := by decide) (hs : k + l ≤ 1000000 := by decide) : mulOk x y = true := by
  unfold mulOk
  have := log_lt hk h
  have := log_lt hl g
  exact Nat.ble_eq_true_of_le (by omega)
theorem divOk_of {k : Nat} {x : Int} (h : B k x) (n : x ≠ 0) (hk : 0 < k := by decide) (hs : k ≤ 9000 := by decide) : divOk x = true := by
  unfold divOk
  have := log_lt hk h
  rw [Bool.and_eq_true]
  exact ⟨by simpa using n, Nat.ble_eq_true_of_le (by omega)⟩
theorem gcd_B {k : Nat} {a b : Int} (h : B k b) (n : b ≠ 0) : B k (Int.gcd a b : Int) := by
  unfold B at *
  have : Int.gcd a b ≤ b.natAbs := Nat.gcd_le_right _ (by omega)
  simpa using Nat.lt_of_le_of_lt this h
theorem gcd_ne {a b : Int} (n : b ≠ 0) : (Int.gcd a b : Int) ≠ 0 := by
  intro e
  have : Int.gcd a b = 0 := by omega
  rw [Int.gcd_eq_zero_iff] at this
  exact n this.2
theorem fr_div {a b : Int} (n : b ≠ 0) : fr (Rat.divInt a b) = .tup [.int (a.fdiv (if b < 0 then -(Int.gcd a b : Int) else Int.gcd a b)), .int (b.fdiv (if b < 0 then -(Int.gcd a b : Int) else Int.gcd a b))] := by
  have g0 := gcd_ne (a := a) n
  have gp : (0 : Int) < Int.gcd a b := by omega
  have d1 : (Int.gcd a b : Int) ∣ a := Int.gcd_dvd_left ..
  have d2 : (Int.gcd a b : Int) ∣ b := Int.gcd_dvd_right ..
  unfold fr
  rw [Rat.num_divInt, Rat.den_divInt, if_neg n, Int.gcd_comm b a]
  obtain ⟨x, hx⟩ := d1
  obtain ⟨y, hy⟩ := d2
  generalize hg : (Int.gcd a b : Int) = g at *
  have hn : ((b.natAbs / Int.gcd a b : Nat) : Int) = (b.natAbs : Int) / g := by rw [Int.natCast_ediv, hg]
  rw [hn]
  by_cases hb : b < 0
  · rw [if_pos hb]
    have e1 : a.fdiv (-g) = -x := by
      rw [Int.fdiv_eq_ediv_of_dvd ⟨-x, by rw [hx, Int.neg_mul_neg]⟩, hx, Int.ediv_neg, Int.mul_ediv_cancel_left _ g0]
    have e2 : b.fdiv (-g) = -y := by
      rw [Int.fdiv_eq_ediv_of_dvd ⟨-y, by rw [hy, Int.neg_mul_neg]⟩, hy, Int.ediv_neg, Int.mul_ediv_cancel_left _ g0]
    have e3 : b.sign * a / g = -x := by
      rw [Int.sign_eq_neg_one_of_neg hb, hx, show (-1 : Int) * (g * x) = g * -x by grind, Int.mul_ediv_cancel_left _ g0]
    have e4 : (b.natAbs : Int) / g = -y := by
      rw [show (b.natAbs : Int) = g * -y by rw [Int.mul_neg, ← hy]; omega, Int.mul_ediv_cancel_left _ g0]
    rw [e1, e2, e3, e4]
  · rw [if_neg hb]
    have e1 : a.fdiv g = x := by
      rw [Int.fdiv_eq_ediv_of_dvd ⟨x, hx⟩, hx, Int.mul_ediv_cancel_left _ g0]
    have e2 : b.fdiv g = y := by
      rw [Int.fdiv_eq_ediv_of_dvd ⟨y, hy⟩, hy, Int.mul_ediv_cancel_left _ g0]
    have e3 : b.sign * a / g = x := by
      rw [Int.sign_eq_one_of_pos (by omega), hx, Int.one_mul, Int.mul_ediv_cancel_left _ g0]
    have e4 : (b.natAbs : Int) / g = y := by
      rw [show (b.natAbs : Int) = g * y by rw [← hy]; omega, Int.mul_ediv_cancel_left _ g0]
    rw [e1, e2, e3, e4]
end Lk

namespace Lk
open PySem Mi
theorem r_share {F n : Nat} {a b : Int} {h : Sto} (hn : b ≠ 0) (hB : B 9000 b) : runF pg F (n + 1) 3 [.int a, .int b] h = .ok (fr (Rat.divInt a b)) h := by
  have h1 := divOk_of (gcd_B (a := a) hB hn) (gcd_ne hn)
  have h2 := divOk_of (gcd_B (a := a) hB hn).neg (by have := gcd_ne (a := a) hn; omega)
  rw [fr_div hn]
  by_cases hb : b < 0 <;> simp [run_step, pg, d_3, hb, h1, h2]
/-- the sizes of a fraction's parts -/
def RB (k : Nat) (q : Rat) : Prop := B k q.num ∧ B k (q.den : Int)
theorem RB.mono {k l : Nat} {q : Rat} (h : RB k q) (hl : k ≤ l) : RB l q := ⟨h.1.mono hl, h.2.mono hl⟩
theorem dn (q : Rat) : (q.den : Int) ≠ 0 := by have := q.den_nz; omega
theorem mul_ne {a b : Int} (h : a ≠ 0) (g : b ≠ 0) : a * b ≠ 0 := by simp [h, g]
theorem add_div (p q : Rat) : Rat.divInt (p.num * q.den + q.num * p.den) (p.den * q.den) = p + q := by
  rw [Rat.add_def', ← Rat.divInt_ofNat, Int.natCast_mul]
theorem sub_div (p q : Rat) : Rat.divInt (p.num * q.den - q.num * p.den) (p.den * q.den) = p - q := by
  rw [Rat.sub_def', ← Rat.divInt_ofNat, Int.natCast_mul]
theorem mul_div (p q : Rat) : Rat.divInt (p.num * q.num) (p.den * q.den) = p * q := by
  rw [Rat.mul_def', ← Rat.divInt_ofNat, Int.natCast_mul]
theorem div_div (p q : Rat) : Rat.divInt (p.num * q.den) (p.den * q.num) = p / q := by
  rw [Rat.div_def, Rat.inv_def, ← Rat.divInt_mul_divInt, Rat.num_divInt_den]
theorem divB {a b : Int} {k : Nat} (ha : B k a) (hb : B k b) (n : b ≠ 0) : RB k (Rat.divInt a b) := by
  have g1 : 0 < Int.gcd b a := Nat.pos_of_ne_zero fun e => by rw [Int.gcd_eq_zero_iff] at e; exact n e.1
  unfold RB B at *
  rw [Rat.num_divInt, Rat.den_divInt, if_neg n]
  refine ⟨?_, ?_⟩
  · refine Nat.lt_of_le_of_lt ?_ ha
    refine Nat.le_trans (Int.natAbs_ediv_le_natAbs ..) ?_
    rw [Int.natAbs_mul, Int.natAbs_sign_of_ne_zero n, Nat.one_mul]
    exact Nat.le_refl _
  · refine Nat.lt_of_le_of_lt ?_ hb
    exact Nat.div_le_self ..
theorem addB {k : Nat} {p q : Rat} (hp : RB k p) (hq : RB k q) : RB (k + k + 1) (p + q) := by
  rw [← add_div]
  exact divB ((hp.1.mul hq.2).add (hq.1.mul hp.2)) ((hp.2.mul hq.2).mono (by omega)) (mul_ne (dn p) (dn q))
theorem addB2 {k l : Nat} {p q : Rat} (hp : RB k p) (hq : RB l q) : RB (k + l + 1) (p + q) := by
  rw [← add_div]
  have h2 := hq.1.mul hp.2
  rw [Nat.add_comm] at h2
  exact divB ((hp.1.mul hq.2).add h2) ((hp.2.mul hq.2).mono (by omega)) (mul_ne (dn p) (dn q))
theorem subB {k : Nat} {p q : Rat} (hp : RB k p) (hq : RB k q) : RB (k + k + 1) (p - q) := by
  rw [← sub_div]
  exact divB ((hp.1.mul hq.2).sub (hq.1.mul hp.2)) ((hp.2.mul hq.2).mono (by omega)) (mul_ne (dn p) (dn q))
theorem mulB {k : Nat} {p q : Rat} (hp : RB k p) (hq : RB k q) : RB (k + k) (p * q) := by
  rw [← mul_div]
  exact divB (hp.1.mul hq.1) (hp.2.mul hq.2) (mul_ne (dn p) (dn q))
theorem num_ne {q : Rat} (h : q ≠ 0) : q.num ≠ 0 := fun e => h (Rat.num_eq_zero.mp e)
theorem quoB {k : Nat} {p q : Rat} (hp : RB k p) (hq : RB k q) (h : q ≠ 0) : RB (k + k) (p / q) := by
  rw [← div_div]
  exact divB (hp.1.mul hq.2) (hp.2.mul hq.1) (mul_ne (dn p) (num_ne h))
section
variable {F n : Nat} {p q : Rat} {h : Sto}
/-- the products of two fractions' parts -/
theorem prods (hp : RB 4000 p) (hq : RB 4000 q) : mulOk p.num q.den = true ∧ mulOk q.num p.den = true ∧ mulOk p.den q.den = true ∧ mulOk p.num q.num = true ∧ mulOk p.den q.num = true :=
  ⟨mulOk_of hp.1 hq.2, mulOk_of hq.1 hp.2, mulOk_of hp.2 hq.2, mulOk_of hp.1 hq.1, mulOk_of hp.2 hq.1⟩
theorem r_plus (hp : RB 4000 p) (hq : RB 4000 q) : runF pg F (n + 2) 4 [fr p, fr q] h = .ok (fr (p + q)) h := by
  obtain ⟨m1, m2, m3, m4, m5⟩ := prods hp hq
  have := r_share (F := F) (n := n) (a := p.num * q.den + q.num * p.den) (b := p.den * q.den) (h := h) (mul_ne (dn p) (dn q)) ((hp.2.mul hq.2).mono (by decide))
  rw [add_div] at this
  simp [run_step (n := n + 1), pg, d_4, fr, m1, m2, m3, this]
end
end Lk

namespace Lk
open PySem Mi
section
variable {F n : Nat} {p q : Rat} {h : Sto}
theorem r_minus (hp : RB 4000 p) (hq : RB 4000 q) : runF pg F (n + 2) 5 [fr p, fr q] h = .ok (fr (p - q)) h := by
  obtain ⟨m1, m2, m3, m4, m5⟩ := prods hp hq
  have := r_share (F := F) (n := n) (a := p.num * q.den - q.num * p.den) (b := p.den * q.den) (h := h) (mul_ne (dn p) (dn q)) ((hp.2.mul hq.2).mono (by decide))
  rw [sub_div] at this
  simp [run_step (n := n + 1), pg, d_5, fr, m1, m2, m3, this]
theorem r_times (hp : RB 4000 p) (hq : RB 4000 q) : runF pg F (n + 2) 6 [fr p, fr q] h = .ok (fr (p * q)) h := by
  obtain ⟨m1, m2, m3, m4, m5⟩ := prods hp hq
  have := r_share (F := F) (n := n) (a := p.num * q.num) (b := p.den * q.den) (h := h) (mul_ne (dn p) (dn q)) ((hp.2.mul hq.2).mono (by decide))
  rw [mul_div] at this
  simp [run_step (n := n + 1), pg, d_6, fr, m1, m2, m3, m4, this]
theorem r_over (hp : RB 4000 p) (hq : RB 4000 q) (hn : q ≠ 0) : runF pg F (n + 2) 7 [fr p, fr q] h = .ok (fr (p / q)) h := by
  obtain ⟨m1, m2, m3, m4, m5⟩ := prods hp hq
  have := r_share (F := F) (n := n) (a := p.num * q.den) (b := p.den * q.num) (h := h) (mul_ne (dn p) (num_ne hn)) ((hp.2.mul hq.1).mono (by decide))
  rw [div_div] at this
  simp [run_step (n := n + 1), pg, d_7, fr, m1, m2, m3, m4, m5, this]
theorem lt_dec (p q : Rat) : decide (p.num * q.den < q.num * p.den) = decide (p < q) := by
  rw [decide_eq_decide]; exact (Rat.lt_iff p q).symm
theorem r_is_less (hp : RB 4000 p) (hq : RB 4000 q) : runF pg F (n + 1) 8 [fr p, fr q] h = .ok (.bl (decide (p < q))) h := by
  obtain ⟨m1, m2, m3, m4, m5⟩ := prods hp hq
  simp only [← lt_dec]
  simp [run_step, pg, d_8, fr, m1, m2, m3]
theorem r_small (hp : RB 4000 p) (hq : RB 4000 q) : runF pg F (n + 2) 9 [fr p, fr q] h = .ok (fr (if q < p then q else p)) h := by
  have := r_is_less (F := F) (n := n) (h := h) hq hp
  by_cases hl : q < p <;> simp [run_step (n := n + 1), pg, d_9, this, hl]
theorem r_whole_i {i : Int} : runF pg F (n + 1) 0 [.int i] h = .ok (.bl true) h := by simp [run_step, pg, d_0]
theorem r_whole_b {i : Bool} : runF pg F (n + 1) 0 [.bl i] h = .ok (.bl false) h := by simp [run_step, pg, d_0]
theorem r_whole_s {i : Str} : runF pg F (n + 1) 0 [.str i] h = .ok (.bl false) h := by simp [run_step, pg, d_0]
theorem r_whole_n : runF pg F (n + 1) 0 [.non] h = .ok (.bl false) h := by simp [run_step, pg, d_0]
theorem r_whole_t {i : List IV} : runF pg F (n + 1) 0 [.tup i] h = .ok (.bl false) h := by simp [run_step, pg, d_0]
theorem r_pair_t {x : List IV} : runF pg F (n + 1) 2 [.tup x] h = .ok (.bl ((x.length : Int) == 2)) h := by
  simp [run_step, pg, d_2]
theorem r_share_i {a b : Int} : runF pg F (n + 2) 11 [.tup [.int a, .int b]] h = .ok (.bl (decide (1 ≤ b) && ((Int.gcd a b : Int) == 1))) h := by
  have h1 := r_pair_t (F := F) (n := n) (h := h) (x := [.int a, .int b])
  have h2 := r_whole_i (F := F) (n := n) (h := h) (i := a)
  have h3 := r_whole_i (F := F) (n := n) (h := h) (i := b)
  by_cases hb : b < 1
  · have : ¬ 1 ≤ b := by omega
    simp [run_step (n := n + 1), pg, d_11, h1, h2, h3, hb, this]
  · have : 1 ≤ b := by omega
    simp [run_step (n := n + 1), pg, d_11, h1, h2, h3, hb, this]
theorem gcd_one (q : Rat) : Int.gcd q.num q.den = 1 := by
  have := q.reduced
  unfold Nat.Coprime at this
  unfold Int.gcd
  simpa using this
theorem r_is_share (q : Rat) : runF pg F (n + 2) 11 [fr q] h = .ok (.bl true) h := by
  have h1 := r_share_i (F := F) (n := n) (h := h) (a := q.num) (b := q.den)
  have h2 : (1 : Int) ≤ q.den := by have := q.den_pos; omega
  rw [gcd_one] at h1
  simpa [fr, h2] using h1
theorem r_is_fraction_i {a b : Int} : runF pg F (n + 3) 16 [.tup [.int a, .int b]] h = .ok (.bl (decide (1 ≤ b) && ((Int.gcd a b : Int) == 1))) h := by
  have h1 := r_share_i (F := F) (n := n) (h := h) (a := a) (b := b)
  simp [run_step (n := n + 2), pg, d_16, h1]
/-- within the told bounds -/
def Sh (q : Rat) : Prop := -(10 ^ 60) < q.num ∧ q.num < 10 ^ 60 ∧ (q.den : Int) < 10 ^ 60
theorem Sh.B {q : Rat} (h : Sh q) : RB 200 q := by
  obtain ⟨h1, h2, h3⟩ := h
  unfold RB Lk.B
  have e : (10 : Int) ^ 60 < 2 ^ 200 := by decide
  have e2 : ((2 ^ 200 : Nat) : Int) = 2 ^ 200 := by decide
  omega
theorem sh_of {q : Rat} (h : RB 190 q) : Sh q := by
  obtain ⟨h1, h2⟩ := h
  unfold Lk.B at h1 h2
  have e : (2 : Int) ^ 190 < 10 ^ 60 := by decide
  have e2 : ((2 ^ 190 : Nat) : Int) = 2 ^ 190 := by decide
  unfold Sh
  omega
theorem r_short (hq : Sh q) : runF pg F (n + 3) 12 [fr q] h = .ok (.bl true) h := by
  have h1 := r_is_share (F := F) (n := n) (h := h) q
  obtain ⟨h2, h3, h4⟩ := hq
  have e : (10 : Int) ^ 60 = 1000000000000000000000000000000000000000000000000000000000000 := by decide
  rw [e] at h2 h3 h4
  unfold fr at *
  simp [run_step (n := n + 2), pg, d_12, h1, h2, h3, h4]
theorem r_req (hq : Sh q) : runF pg F (n + 4) 13 [fr q] h = .ok .non h := by
  have h1 := r_short (F := F) (n := n) (h := h) hq
  simp [run_step (n := n + 3), pg, d_13, h1]
theorem r_req2 (hp : Sh p) (hq : Sh q) : runF pg F (n + 5) 14 [fr p, fr q] h = .ok .non h := by
  have h1 := r_req (F := F) (n := n) (h := h) hp
  have h2 := r_req (F := F) (n := n) (h := h) hq
  simp [run_step (n := n + 4), pg, d_14, h1, h2]
theorem Sh.b (hq : Sh q) : RB 4000 q := hq.B.mono (by decide)
theorem r_added (hp : Sh p) (hq : Sh q) : runF pg F (n + 6) 18 [fr p, fr q] h = .ok (fr (p + q)) h := by
  have h1 := r_req2 (F := F) (n := n) (h := h) hp hq
  have h2 := r_plus (F := F) (n := n + 3) (h := h) hp.b hq.b
  simp [run_step (n := n + 5), pg, d_18, h1, h2]
theorem r_less (hp : Sh p) (hq : Sh q) : runF pg F (n + 6) 19 [fr p, fr q] h = .ok (fr (p - q)) h := by
  have h1 := r_req2 (F := F) (n := n) (h := h) hp hq
  have h2 := r_minus (F := F) (n := n + 3) (h := h) hp.b hq.b
  simp [run_step (n := n + 5), pg, d_19, h1, h2]
theorem r_multiplied (hp : Sh p) (hq : Sh q) : runF pg F (n + 6) 20 [fr p, fr q] h = .ok (fr (p * q)) h := by
  have h1 := r_req2 (F := F) (n := n) (h := h) hp hq
  have h2 := r_times (F := F) (n := n + 3) (h := h) hp.b hq.b
  simp [run_step (n := n + 5), pg, d_20, h1, h2]
theorem r_divided (hp : Sh p) (hq : Sh q) (hn : q ≠ 0) : runF pg F (n + 6) 21 [fr p, fr q] h = .ok (fr (p / q)) h := by
  have h1 := r_req2 (F := F) (n := n) (h := h) hp hq
  have h2 := r_over (F := F) (n := n + 3) (h := h) hp.b hq.b hn
  have h3 : (q.num == 0) = false := by simpa using num_ne hn
  have e : fr q = .tup [.int q.num, .int q.den] := rfl
  simp [run_step (n := n + 5), pg, d_21, h1, h2]
  simp [e, h3]
  rw [← e, h2]
  simp
/-- -1, 0, 1 -/
def ord (p q : Rat) : Int := (if q < p then 1 else 0) - (if p < q then 1 else 0)
theorem r_compared (hp : Sh p) (hq : Sh q) : runF pg F (n + 6) 22 [fr p, fr q] h = .ok (.int (ord p q)) h := by
  have h1 := r_req2 (F := F) (n := n) (h := h) hp hq
  have h2 := r_is_less (F := F) (n := n + 4) (h := h) hp.b hq.b
  have h3 := r_is_less (F := F) (n := n + 4) (h := h) hq.b hp.b
  simp [run_step (n := n + 5), pg, d_22, h1, h2, h3, ord]
end
end Lk

namespace Lk
open PySem Mi
theorem lw_succ (c : S → R Bool) (b : S → R Fl) (n : Nat) (s : S) : loopW c b (n + 1) s = (c s).bind fun k s1 => if k then (b s1).bind fun fl s2 => match fl with
      | .nx => loopW c b n s2
      | .ct => loopW c b n s2
      | .bk => .ok .nx s2
      | .rt v => .ok (.rt v) s2
    else .ok .nx s1 := rfl
theorem gcd_step {x y : Int} (hx : 0 ≤ x) (hy : 0 ≤ y) : Int.gcd y (x % y) = Int.gcd x y := by
  obtain ⟨a, rfl⟩ := Int.eq_ofNat_of_zero_le hx
  obtain ⟨b, rfl⟩ := Int.eq_ofNat_of_zero_le hy
  rw [← Int.natCast_emod, Int.gcd_natCast_natCast, Int.gcd_natCast_natCast, Nat.gcd_comm a b, Nat.gcd_rec b a, Nat.gcd_comm]
section
variable {F n : Nat} {p q : Rat} {h : Sto}
theorem common_loop {cl : Nat → List IV → Sto → Rc} {F : Nat} {h : Sto} : ∀ (k : Nat) (x y : Int), 0 ≤ x → 0 ≤ y → y.toNat < k →
    loopW (evT cl (.val (.cmp .gt (.var 1) (.cst (.int 0))))) (evSs cl F (.cons (.par [0, 1] [(.e (.var 1)), (.e (.bin .mod (.blt .int (.cons (.var 0) .nil)) (.var 1)))]) .nil)) k ⟨[some (.v (.int x)), some (.v (.int y))], h⟩ = .ok .nx ⟨[some (.v (.int (Int.gcd x y))), some (.v (.int 0))], h⟩
  | 0, _, _, _, _, hk => absurd hk (Nat.not_lt_zero _)
  | k + 1, x, y, hx, hy, hk => by
    rw [lw_succ]
    by_cases h0 : 0 < y
    · have hm : x.fmod y = x % y := Int.fmod_eq_emod_of_nonneg x hy
      have h1 : 0 ≤ x % y := Int.emod_nonneg x (by omega)
      have h2 : x % y < y := Int.emod_lt_of_pos x h0
      have ih := common_loop (cl := cl) (F := F) (h := h) k y (x % y) hy h1 (by omega)
      have hg : Int.gcd y (x % y) = Int.gcd x y := by
        exact gcd_step hx hy
      have hne : y ≠ 0 := by omega
      rw [hg] at ih
      simp [h0, hm, hne, ih]
    · have e : y = 0 := by omega
      subst e
      simp
      omega
theorem r_common {a b : Int} (hF : b.natAbs < F) : runF pg F (n + 1) 28 [.int a, .int b] h = .ok (.int (Int.gcd a b)) h := by
  have e1 : ∀ i : Int, (if i < 0 then -i else i) = (i.natAbs : Int) := fun i => by split <;> omega
  have := common_loop (cl := runF pg F n) (F := F) (h := h) F (a.natAbs : Int) (b.natAbs : Int) (by omega) (by omega) (by omega)
  have hg : Int.gcd (a.natAbs : Int) (b.natAbs : Int) = Int.gcd a b := by unfold Int.gcd; simp
  rw [hg] at this
  simp [run_step, pg, d_28, e1, this]
theorem r_lshare {a b : Int} (hn : b ≠ 0) (hB : B 9000 b) (hF : b.natAbs < F) : runF pg F (n + 2) 29 [.int a, .int b] h = .ok (fr (Rat.divInt a b)) h := by
  have h1 := divOk_of (gcd_B (a := a) hB hn) (gcd_ne hn)
  have h2 := divOk_of (gcd_B (a := a) hB hn).neg (by have := gcd_ne (a := a) hn; omega)
  have hc := r_common (n := n) (h := h) (a := a) hF
  have m1 : mulOk (Int.gcd a b : Int) 1 = true := mulOk_of (l := 1) (gcd_B (a := a) hB hn) (by unfold B; decide)
  have m2 : mulOk (Int.gcd a b : Int) (-1) = true := mulOk_of (l := 1) (gcd_B (a := a) hB hn) (by unfold B; decide)
  rw [fr_div hn]
  by_cases hb : b < 0
  · have : ¬ 0 < b := by omega
    simp [run_step (n := n + 1), pg, d_29, hb, h1, h2, hc, this, m2]
  · have : 0 < b := by omega
    simp [run_step (n := n + 1), pg, d_29, hb, h1, h2, hc, this, m1]
/-- enough turns for what is drawn -/
def Big (F : Nat) : Prop := 2 ^ 8500 ≤ F
theorem Big.lt (hF : Big F) {k : Nat} {x : Int} (h : B k x) (hk : k ≤ 8500 := by decide) : x.natAbs < F := Nat.lt_of_lt_of_le (h.mono hk) hF
theorem r_lplus (hF : Big F) (hp : RB 4000 p) (hq : RB 4000 q) : runF pg F (n + 3) 30 [fr p, fr q] h = .ok (fr (p + q)) h := by
  obtain ⟨m1, m2, m3, m4, m5⟩ := prods hp hq
  have := r_lshare (F := F) (n := n) (a := p.num * q.den + q.num * p.den) (b := p.den * q.den) (h := h) (mul_ne (dn p) (dn q)) ((hp.2.mul hq.2).mono (by decide)) (hF.lt (hp.2.mul hq.2))
  rw [add_div] at this
  simp [run_step (n := n + 2), pg, d_30, fr, m1, m2, m3, this]
theorem r_lminus (hF : Big F) (hp : RB 4000 p) (hq : RB 4000 q) : runF pg F (n + 3) 31 [fr p, fr q] h = .ok (fr (p - q)) h := by
  obtain ⟨m1, m2, m3, m4, m5⟩ := prods hp hq
  have := r_lshare (F := F) (n := n) (a := p.num * q.den - q.num * p.den) (b := p.den * q.den) (h := h) (mul_ne (dn p) (dn q)) ((hp.2.mul hq.2).mono (by decide)) (hF.lt (hp.2.mul hq.2))
  rw [sub_div] at this
  simp [run_step (n := n + 2), pg, d_31, fr, m1, m2, m3, this]
theorem r_ltimes (hF : Big F) (hp : RB 4000 p) (hq : RB 4000 q) : runF pg F (n + 3) 32 [fr p, fr q] h = .ok (fr (p * q)) h := by
  obtain ⟨m1, m2, m3, m4, m5⟩ := prods hp hq
  have := r_lshare (F := F) (n := n) (a := p.num * q.num) (b := p.den * q.den) (h := h) (mul_ne (dn p) (dn q)) ((hp.2.mul hq.2).mono (by decide)) (hF.lt (hp.2.mul hq.2))
  rw [mul_div] at this
  simp [run_step (n := n + 2), pg, d_32, fr, m1, m2, m3, m4, this]
theorem r_lless (hp : RB 4000 p) (hq : RB 4000 q) : runF pg F (n + 1) 33 [fr p, fr q] h = .ok (.bl (decide (p < q))) h := by
  obtain ⟨m1, m2, m3, m4, m5⟩ := prods hp hq
  simp only [← lt_dec]
  simp [run_step, pg, d_33, fr, m1, m2, m3]
theorem r_order (hp : RB 4000 p) (hq : RB 4000 q) : runF pg F (n + 2) 36 [fr p, fr q] h = .ok (.int (ord p q)) h := by
  have h2 := r_lless (F := F) (n := n) (h := h) hp hq
  have h3 := r_lless (F := F) (n := n) (h := h) hq hp
  simp [run_step (n := n + 1), pg, d_36, h2, h3, ord]
end
end Lk

namespace Lk
open PySem Mi
@[simp] theorem deref_l {h : Sto} {n : Nat} {xs : List IV} (e : h[n]? = some (.lst xs)) : deref h (.obj n) = .lst xs := by
  unfold deref
  simp only
  rw [e]
@[simp] theorem lsAt_v {i n : Nat} {s : S} {xs : List IV} (e : s.h[n]? = some (.lst xs)) : lsAt (.var i) (.obj n) s = some xs := by
  show (match s.h[n]? with | some (.lst xs) => some xs | _ => none) = _
  rw [e]
@[simp] theorem lsPut_v (i n : Nat) (s : S) (xs : List IV) : lsPut (.var i) (.obj n) xs s = ⟨s.r, s.h.set n (.lst xs)⟩ := rfl
theorem set_at {h : Sto} {n : Nat} {x y : IO} (e : h[n]? = some x) : (h.set n y)[n]? = some y := by
  have := (List.getElem?_eq_some_iff.mp e).1
  simp [this]
@[simp] theorem ixN_0 (n : Nat) : L2.ixN (n + 1) 0 = some 0 := by simp [L2.ixN]
@[simp] theorem ixN_3_0 : L2.ixN 3 0 = some 0 := rfl
@[simp] theorem ixN_3_2 : L2.ixN 3 2 = some 2 := rfl
/-- a bowl in the store -/
def Bw (h : Sto) (m k : Nat) : Prop := ∃ a b c : Int, h[m]? = some (.lst [.int a, .int b, .int c]) ∧ 0 ≤ a ∧ B 1200 a ∧ B 60 b ∧ 0 ≤ c ∧ c ≤ k
theorem Bw.mono {h : Sto} {m k l : Nat} (w : Bw h m k) (hl : k ≤ l) : Bw h m l := by
  obtain ⟨a, b, c, h1, h2, h3, h4, h5, h6⟩ := w
  exact ⟨a, b, c, h1, h2, h3, h4, h5, by omega⟩
section
variable {F n : Nat} {p q : Rat} {h : Sto}
theorem fmod_lt {x t : Int} (ht : 0 < t) : 0 ≤ x.fmod t ∧ x.fmod t < t := ⟨Int.fmod_nonneg_of_pos x ht, Int.fmod_lt_of_pos x ht⟩
theorem fdiv_B {k : Nat} {x t : Int} (hx : 0 ≤ x) (ht : 0 < t) (hB : B k x) : 0 ≤ x.fdiv t ∧ B k (x.fdiv t) := by
  have h1 : x.fdiv t = x / t := Int.fdiv_eq_ediv_of_nonneg x (by omega)
  have h2 : 0 ≤ x / t := Int.ediv_nonneg hx (by omega)
  have h3 : x / t ≤ x := Int.ediv_le_self t hx
  rw [h1]
  refine ⟨h2, ?_⟩
  unfold B at *
  omega
theorem B_of {k : Nat} {x t : Int} (h1 : 0 ≤ x) (h2 : x < t) (ht : t ≤ 2 ^ k) : B k x := by
  unfold B
  have : ((2 ^ k : Nat) : Int) = 2 ^ k := by simp
  omega
theorem r_scoop {m k : Nat} {t : Int} (w : Bw h m k) (hk : k < 1000000) (ht : 0 < t) (hB : B 9000 t) : ∃ r h', runF pg F (n + 1) 26 [.obj m, .int t] h = .ok (.int r) h' ∧ 0 ≤ r ∧ r < t ∧ Bw h' m (k + 1) := by
  obtain ⟨a, b, c, e, ha, hBa, hBb, hc, hck⟩ := w
  have hne : (t == 0) = false := by simp; omega
  have hne' : t ≠ 0 := by omega
  have hd := divOk_of hB hne'
  by_cases h0 : 0 < a
  · refine ⟨a.fmod t, h.set m (.lst [.int (a.fdiv t), .int b, .int c]), ?_, (fmod_lt ht).1, (fmod_lt ht).2, ?_⟩
    · simp [run_step, pg, d_26, e, h0, hne', hd]
    · have := fdiv_B ha ht hBa
      exact ⟨a.fdiv t, b, c, set_at e, this.1, this.2, hBb, hc, by omega⟩
  · have m1 : mulOk 9699809 (c + 1) = true := mulOk_of (k := 24) (l := 60) (by unfold B; decide) (B_of (t := 1000002) (by omega) (by omega) (by decide))
    have m2 : mulOk 499 (c + 1) = true := mulOk_of (k := 24) (l := 60) (by unfold B; decide) (B_of (t := 1000002) (by omega) (by omega) (by decide))
    generalize hx : (b + 9699809 * (c + 1)).fmod 2305843009213693951 = x
    have x1 := fmod_lt (x := b + 9699809 * (c + 1)) (t := 2305843009213693951) (by decide)
    rw [hx] at x1
    have Bx : B 64 x := B_of x1.1 x1.2 (by decide)
    have m3 : mulOk x x = true := mulOk_of Bx Bx
    generalize hy : (x * x + 499 * (c + 1)).fmod 2305843009213693921 = y
    have y1 := fmod_lt (x := x * x + 499 * (c + 1)) (t := 2305843009213693921) (by decide)
    rw [hy] at y1
    have By : B 64 y := B_of y1.1 y1.2 (by decide)
    have m4 : mulOk y 5800087 = true := mulOk_of (l := 24) By (by unfold B; decide)
    have d5 : divOk 65537 = true := by decide
    refine ⟨((y * 5800087 + x).fdiv 65537).fmod t, h.set m (.lst [.int a, .int b, .int (c + 1)]), ?_, (fmod_lt ht).1, (fmod_lt ht).2, ?_⟩
    · have e2 := set_at (y := .lst [.int a, .int b, .int (c + 1)]) e
      simp [run_step, pg, d_26, e, h0, hne', hd, e2, m1, m2, hx, m3, hy, m4, d5]
    · exact ⟨a, b, c + 1, set_at e, ha, hBa, hBb, by omega, by omega⟩
end
end Lk

namespace Lk
open PySem Mi
section
variable {F n : Nat} {p q : Rat} {h : Sto}
theorem r_one_of {m k : Nat} {xs : List IV} (w : Bw h m k) (hk : k < 1000000) (h0 : 0 < xs.length) (hl : xs.length < 1000) : ∃ (x : IV) (h' : Sto), x ∈ xs ∧ runF pg F (n + 2) 27 [.obj m, .lst xs] h = .ok x h' ∧ Bw h' m (k + 1) := by
  obtain ⟨r, h', e, h1, h2, w'⟩ := r_scoop (F := F) (n := n) (t := xs.length) w hk (by omega) ((B_of (k := 10) (t := 1000) (by omega) (by omega) (by decide)).mono (by decide))
  obtain ⟨i, rfl⟩ := Int.eq_ofNat_of_zero_le h1
  have hi : i < xs.length := by omega
  refine ⟨xs[i], h', List.getElem_mem hi, ?_, w'⟩
  have ha : L2.atI xs (i : Int) = some xs[i] := by rw [atN]; simp [hi]
  simp [run_step (n := n + 1), pg, d_27, e, ha]
theorem r_drawn (hF : Big F) {m k : Nat} (w : Bw h m k) (hk : k < 999990) : ∃ (q : Rat) (h' : Sto), runF pg F (n + 3) 35 [.obj m] h = .ok (fr q) h' ∧ RB 48 q ∧ Bw h' m (k + 4) := by
  obtain ⟨x, h1, hx, e1, w1⟩ := r_one_of (F := F) (n := n) (xs := [.int 3, .int 12, .int 100, .int 100000000000000]) w (by omega) (by simp) (by simp)
  obtain ⟨y, h2, hy, e2, w2⟩ := r_one_of (F := F) (n := n) (xs := [.int 1, .int 4, .int 30, .int 100000000000000]) w1 (by omega) (by simp) (by simp)
  obtain ⟨s, rfl, hs1, hs2⟩ : ∃ s : Int, x = .int s ∧ 0 < s ∧ s ≤ 100000000000000 := by
    simp at hx
    rcases hx with rfl | rfl | rfl | rfl <;> exact ⟨_, rfl, by decide, by decide⟩
  obtain ⟨t, rfl, ht1, ht2⟩ : ∃ t : Int, y = .int t ∧ 0 < t ∧ t ≤ 100000000000000 := by
    simp at hy
    rcases hy with rfl | rfl | rfl | rfl <;> exact ⟨_, rfl, by decide, by decide⟩
  have bs : B 48 s := B_of (t := 100000000000001) (by omega) (by omega) (by decide)
  have m1 : mulOk 2 s = true := mulOk_of (k := 2) (by unfold B; decide) bs
  obtain ⟨u, h3, e3, u1, u2, w3⟩ := r_scoop (F := F) (n := n + 1) (t := 2 * s + 1) w2 (by omega) (by omega) ((B_of (k := 50) (t := 300000000000001) (by omega) (by omega) (by decide)).mono (by decide))
  obtain ⟨v, h4, e4, v1, v2, w4⟩ := r_scoop (F := F) (n := n + 1) (t := t) w3 (by omega) ht1 ((B_of (k := 48) (t := 100000000000001) (by omega) (by omega) (by decide)).mono (by decide))
  have bb : B 48 (1 + v) := B_of (t := 100000000000002) (by omega) (by omega) (by decide)
  have bt : B 48 (u - s) := by
    unfold B
    have : (2 : Nat) ^ 48 = 281474976710656 := by decide
    omega
  have hn : (1 + v) ≠ 0 := by omega
  have e5 := r_lshare (F := F) (n := n) (a := u - s) (b := 1 + v) (h := h4) hn (bb.mono (by decide)) (hF.lt bb)
  refine ⟨Rat.divInt (u - s) (1 + v), h4, ?_, divB bt bb hn, w4⟩
  have p1 : powOk 10 14 = true := by decide
  simp [run_step (n := n + 2), pg, d_35, p1, e1, e2, m1, e3, e4, e5]
/-- a list of fractions within the told bounds -/
def Shs (qs : List Rat) : Prop := ∀ q ∈ qs, Sh q
theorem lf_cons (f : IV → S → R Fl) (x : IV) (xs : List IV) (s : S) : loopF f (x :: xs) s = (f x s).bind fun fl s1 => match fl with
    | .nx => loopF f xs s1
    | .ct => loopF f xs s1
    | .bk => .ok .nx s1
    | .rt v => .ok (.rt v) s1 := rfl
theorem r_reqs {qs : List Rat} (hq : Shs qs) : runF pg F (n + 5) 15 [.tup (qs.map fr)] h = .ok .non h := by
  have loop : ∀ (qs : List Rat) (a : SV) (b : Option SV), Shs qs → ∃ c, loopF (fun x s2 => match asgT (.nm 1) [x] s2.r with
      | some r => evSs (runF pg F (n + 4)) F (.cons (.exp (.call ("require_fraction" : Str) 13 (.cons (.var 1) .nil))) .nil) ⟨r, s2.h⟩
      | none => R.bad) (qs.map fr) ⟨[some a, b], h⟩ = .ok .nx ⟨[some a, c], h⟩ := by
    intro qs
    induction qs with
    | nil => intro a b _; exact ⟨b, rfl⟩
    | cons q qs ih =>
      intro a b hq
      have h1 := r_req (F := F) (n := n) (h := h) (hq q (List.mem_cons_self ..))
      obtain ⟨c, hc⟩ := ih a (some (.v (fr q))) fun x hx => hq x (List.mem_cons_of_mem _ hx)
      refine ⟨c, ?_⟩
      rw [List.map_cons, lf_cons]
      simp [h1]
      simpa using hc
  obtain ⟨c, hc⟩ := loop qs (.v (.tup (qs.map fr))) none hq
  simp [run_step (n := n + 4), pg, d_15]
  simp at hc
  rw [hc]
  simp
end
end Lk

namespace Lk
open PySem Mi
/-- a fraction as data -/
def dF (q : Rat) : PyData := .tuple [.int q.num, .int q.den]
theorem toD_fr (q : Rat) : toD (fr q) = some (dF q) := by simp [fr, dF, toD, toDs]
theorem toDs_fr : ∀ qs : List Rat, toDs (qs.map fr) = some (qs.map dF)
  | [] => rfl
  | q :: qs => by simp [toDs, toD_fr, toDs_fr qs]
theorem lay_fr : ∀ qs : List Rat, PyData.canLayAll0 (qs.map dF) = true
  | [] => by simp [PyData.canLayAll0]
  | q :: qs => by simp [PyData.canLayAll0, dF, PyData.canLay0, lay_fr qs]
theorem shp_of {x : IV} {d : PyData} (h : toD x = some d) (hs : SeqAt.shaped d = true) : shp x = some d := by
  unfold shp
  rw [h]
  exact if_pos hs
theorem shp_fr (q : Rat) : shp (fr q) = some (dF q) := by
  unfold shp
  rw [toD_fr]
  simp [SeqAt.shaped, dF, PyData.canLay0, PyData.canLayAll0, PyData.depth, PyData.depthAll]
theorem eq_fr (p q : Rat) : iEq (fr p) (fr q) = some (decide (p = q)) := by
  show iEqD (fr p) (fr q) = _
  unfold iEqD
  rw [shp_fr, shp_fr]
  simp only [dF, PyData.eqv, PyData.eqvAll, Bool.and_true, Option.some.injEq]
  rw [Bool.eq_iff_iff]
  simp only [Bool.and_eq_true, beq_iff_eq, decide_eq_true_eq]
  constructor
  · rintro ⟨h1, h2⟩
    exact Rat.ext h1 (by omega)
  · rintro rfl
    exact ⟨rfl, rfl⟩
theorem depth_fr : ∀ qs : List Rat, PyData.depthAll (qs.map dF) ≤ 1
  | [] => by simp [PyData.depthAll]
  | q :: qs => by
    have := depth_fr qs
    simp [PyData.depthAll, dF, PyData.depth]
    omega
theorem eq_frs_nil (q : Rat) (qs : List Rat) : iEq (.tup (fr q :: qs.map fr)) (.tup []) = some false := by
  show iEqD (.tup ((q :: qs).map fr)) (.tup []) = _
  have h1 : shp (.tup ((q :: qs).map fr)) = some (.tuple ((q :: qs).map dF)) := by
    refine shp_of (by unfold toD; rw [toDs_fr]; rfl) ?_
    have := depth_fr (q :: qs)
    unfold SeqAt.shaped
    rw [Bool.and_eq_true]
    exact ⟨by simp only [PyData.canLay0, lay_fr], decide_eq_true (by simp only [PyData.depth]; omega)⟩
  have h2 : shp (.tup []) = some (.tuple []) := rfl
  unfold iEqD
  rw [h1, h2]
  simp [PyData.eqv, PyData.eqvAll]
section
variable {F n : Nat} {p q : Rat} {h : Sto}
theorem fr0 : (IV.tup [.int 0, .int 1]) = fr 0 := rfl
def RBs (k : Nat) (qs : List Rat) : Prop := ∀ q ∈ qs, RB k q
def summ : Rat → List Rat → Rat
  | a, [] => a
  | a, q :: qs => summ (a + q) qs
def lowest : Rat → List Rat → Rat
  | a, [] => a
  | a, q :: qs => lowest (if q < a then q else a) qs
/-- the sum of some fractions stays small enough -/
def Fit (k : Nat) (len : Nat) : Prop := k + 49 * len ≤ 1900
theorem Fit.head {k len : Nat} (h : Fit k (len + 1)) : k ≤ 4000 := by
  unfold Fit at h
  omega
theorem Fit.next {k len : Nat} (h : Fit k (len + 1)) : Fit (k + 48 + 1) len := by
  unfold Fit at *
  omega
theorem summB : ∀ {qs : List Rat} {k : Nat} {a : Rat}, RB k a → RBs 48 qs → RB (k + 49 * qs.length) (summ a qs)
  | [], k, a, h, _ => h
  | q :: qs, k, a, h, hq => by
    have := summB (addB2 h (hq q (List.mem_cons_self ..))) fun x hx => hq x (List.mem_cons_of_mem _ hx)
    rw [List.length_cons]
    unfold summ
    exact this.mono (by omega)
theorem lowB {k : Nat} : ∀ {qs : List Rat} {a : Rat}, RB k a → RBs k qs → RB k (lowest a qs)
  | [], a, h, _ => h
  | q :: qs, a, h, hq => by
    unfold lowest
    exact lowB (by split; exact hq q (List.mem_cons_self ..); exact h) fun x hx => hq x (List.mem_cons_of_mem _ hx)
theorem zeroB {k : Nat} (hk : 0 < k) : RB k 0 := by
  unfold RB B
  have : 2 ^ 1 ≤ 2 ^ k := Nat.pow_le_pow_right (by decide) hk
  simp
  omega
theorem r_total {qs : List Rat} (hq : RBs 48 qs) (hf : Fit 1 qs.length) : runF pg F (n + 3) 10 [.tup (qs.map fr)] h = .ok (fr (summ 0 qs)) h := by
  have loop : ∀ (qs : List Rat) (k : Nat) (a : SV) (acc : Rat) (b : Option SV), RB k acc → RBs 48 qs → Fit k qs.length → ∃ c, loopF (fun x s2 => match asgT (.nm 2) [x] s2.r with
      | some r => evSs (runF pg F (n + 2)) F (.cons (.asg (.nm 1) (.call ("plus" : Str) 4 (.cons (.var 1) (.cons (.var 2) .nil)))) .nil) ⟨r, s2.h⟩
      | none => R.bad) (qs.map fr) ⟨[some a, some (.v (fr acc)), b], h⟩ = .ok .nx ⟨[some a, some (.v (fr (summ acc qs))), c], h⟩ := by
    intro qs
    induction qs with
    | nil => intro k a acc b _ _ _; exact ⟨b, rfl⟩
    | cons q qs ih =>
      intro k a acc b ha hq hf
      have hk := Fit.head hf
      have hq1 := hq q (List.mem_cons_self ..)
      have h1 := r_plus (F := F) (n := n) (h := h) (ha.mono hk) (hq1.mono (by decide))
      obtain ⟨c, hc⟩ := ih (k + 48 + 1) a (acc + q) (some (.v (fr q))) (addB2 ha hq1) (fun x hx => hq x (List.mem_cons_of_mem _ hx)) (Fit.next hf)
      refine ⟨c, ?_⟩
      rw [List.map_cons, lf_cons]
      simp [h1, summ]
      simpa using hc
  obtain ⟨c, hc⟩ := loop qs 1 (.v (.tup (qs.map fr))) 0 none (zeroB (by decide)) hq hf
  simp [run_step (n := n + 2), pg, d_10]
  simp at hc
  rw [fr0, hc]
  simp
theorem shs_of {qs : List Rat} (h : RBs 190 qs) : Shs qs := fun q hq => sh_of (h q hq)
theorem RBs.mono {k l : Nat} {qs : List Rat} (h : RBs k qs) (hl : k ≤ l) : RBs l qs := fun q hq => (h q hq).mono hl
theorem r_summed {qs : List Rat} (hq : RBs 48 qs) (hf : Fit 1 qs.length) : runF pg F (n + 6) 24 [.tup (qs.map fr)] h = .ok (fr (summ 0 qs)) h := by
  have h1 := r_reqs (F := F) (n := n) (h := h) (shs_of (hq.mono (by decide)))
  have h2 := r_total (F := F) (n := n + 2) (h := h) hq hf
  simp [run_step (n := n + 5), pg, d_24, h1, h2]
theorem r_least {q0 : Rat} {qs : List Rat} (hq : RBs 190 (q0 :: qs)) : runF pg F (n + 6) 23 [.tup ((q0 :: qs).map fr)] h = .ok (fr (lowest q0 (q0 :: qs))) h := by
  have h1 := r_reqs (F := F) (n := n) (h := h) (shs_of hq)
  have loop : ∀ (qs : List Rat) (a : SV) (acc : Rat) (b : Option SV), RB 190 acc → RBs 190 qs → ∃ c, loopF (fun x s2 => match asgT (.nm 2) [x] s2.r with
      | some r => evSs (runF pg F (n + 5)) F (.cons (.asg (.nm 1) (.call ("small" : Str) 9 (.cons (.var 1) (.cons (.var 2) .nil)))) .nil) ⟨r, s2.h⟩
      | none => R.bad) (qs.map fr) ⟨[some a, some (.v (fr acc)), b], h⟩ = .ok .nx ⟨[some a, some (.v (fr (lowest acc qs))), c], h⟩ := by
    intro qs
    induction qs with
    | nil => intro a acc b _ _; exact ⟨b, rfl⟩
    | cons q qs ih =>
      intro a acc b ha hq
      have hq1 := hq q (List.mem_cons_self ..)
      have h1 := r_small (F := F) (n := n + 3) (h := h) (ha.mono (by decide)) (hq1.mono (by decide))
      obtain ⟨c, hc⟩ := ih a (if q < acc then q else acc) (some (.v (fr q))) (by split <;> assumption) (fun x hx => hq x (List.mem_cons_of_mem _ hx))
      refine ⟨c, ?_⟩
      rw [List.map_cons, lf_cons]
      simp [h1, lowest]
      simpa using hc
  obtain ⟨c, hc⟩ := loop (q0 :: qs) (.v (.tup ((q0 :: qs).map fr))) q0 none (hq q0 (List.mem_cons_self ..)) hq
  have h2 := eq_frs_nil q0 qs
  simp at h1 hc
  simp [run_step (n := n + 5), pg, d_23, h1, h2, hc]
end
end Lk

namespace Lk
open PySem Mi
section
variable {F n : Nat} {p q : Rat} {h : Sto}
theorem ten60 : (10 : Int) ^ 60 = 1000000000000000000000000000000000000000000000000000000000000 := by decide
theorem r_is_short {i : Int} (h1 : -(10 ^ 60) < i) (h2 : i < 10 ^ 60) : runF pg F (n + 2) 1 [.int i] h = .ok (.bl true) h := by
  have h3 := r_whole_i (F := F) (n := n) (h := h) (i := i)
  rw [ten60] at h1 h2
  simp [run_step (n := n + 1), pg, d_1, h3, h1, h2]
theorem r_fraction {a b : Int} (a1 : -(10 ^ 60) < a) (a2 : a < 10 ^ 60) (b1 : -(10 ^ 60) < b) (b2 : b < 10 ^ 60) (hn : b ≠ 0) : runF pg F (n + 3) 17 [.int a, .int b] h = .ok (fr (Rat.divInt a b)) h := by
  have h1 := r_is_short (F := F) (n := n) (h := h) a1 a2
  have h2 := r_is_short (F := F) (n := n) (h := h) b1 b2
  have hB : B 9000 b := by
    refine B.mono (k := 200) ?_ (by decide)
    unfold B
    have e : (10 : Int) ^ 60 < 2 ^ 200 := by decide
    have e2 : ((2 ^ 200 : Nat) : Int) = 2 ^ 200 := by decide
    omega
  have h3 := r_share (F := F) (n := n + 1) (h := h) (a := a) hn hB
  simp [run_step (n := n + 2), pg, d_17, lf_cons, h1, h2, hn, h3]
/-- both judges say the same of a value -/
def NV (F n : Nat) (h : Sto) (v : IV) : Prop := ∃ k, runF pg F (n + 3) 16 [v] h = .ok (.bl k) h ∧ runF pg F (n + 3) 34 [v] h = .ok (.bl k) h
@[simp] theorem eq_nn : iEq (.lst []) (.lst []) = some true := rfl
@[simp] theorem eq_1n : iEq (.lst [.int 1]) (.lst []) = some false := rfl
@[simp] theorem eq_2n : iEq (.lst [.int 1, .int 1]) (.lst []) = some false := rfl
theorem nv_ints {a b : Int} (hF : b.natAbs < F) : NV F n h (.tup [.int a, .int b]) := by
  refine ⟨_, r_is_fraction_i, ?_⟩
  have h1 := r_common (n := n + 1) (h := h) (a := a) hF
  by_cases hb : 0 < b
  · have : 1 ≤ b := by omega
    simp [run_step (n := n + 2), pg, d_34, loopL, noExc, wipeR, backR, h1, hb, this]
  · have : ¬ 1 ≤ b := by omega
    simp [run_step (n := n + 2), pg, d_34, loopL, noExc, wipeR, backR, h1, hb, this]
theorem share_no {v : IV} (h1 : runF pg F (n + 1) 2 [v] h = .ok (.bl false) h) : runF pg F (n + 3) 16 [v] h = .ok (.bl false) h := by
  simp [run_step (n := n + 2), run_step (n := n + 1), pg, d_16, d_11, h1]
theorem nv_list {x : List IV} : NV F n h (.lst x) := ⟨false, share_no (by simp [run_step, pg, d_2]), by simp [run_step (n := n + 2), pg, d_34]⟩
theorem nv_int {x : Int} : NV F n h (.int x) := ⟨false, share_no (by simp [run_step, pg, d_2]), by simp [run_step (n := n + 2), pg, d_34]⟩
theorem nv_str {x : Str} : NV F n h (.str x) := ⟨false, share_no (by simp [run_step, pg, d_2]), by simp [run_step (n := n + 2), pg, d_34]⟩
theorem nv_non : NV F n h .non := ⟨false, share_no (by simp [run_step, pg, d_2]), by simp [run_step (n := n + 2), pg, d_34]⟩
theorem nv_dct {x y : List IV} : NV F n h (.dct false x y) := ⟨false, share_no (by simp [run_step, pg, d_2]), by simp [run_step (n := n + 2), pg, d_34]⟩
theorem nv_1 {x : IV} : NV F n h (.tup [x]) := ⟨false, share_no (by simp [run_step, pg, d_2]), by simp [run_step (n := n + 2), pg, d_34]⟩
theorem nv_3 {x y z : IV} : NV F n h (.tup [x, y, z]) := ⟨false, share_no (by simp [run_step, pg, d_2]), by simp [run_step (n := n + 2), pg, d_34]⟩
theorem share_no1 {x y : IV} (h1 : runF pg F (n + 1) 0 [x] h = .ok (.bl false) h) : runF pg F (n + 3) 16 [.tup [x, y]] h = .ok (.bl false) h := by
  have h2 := r_pair_t (F := F) (n := n) (h := h) (x := [x, y])
  simp [run_step (n := n + 2), run_step (n := n + 1), pg, d_16, d_11, h1, h2]
theorem share_no2 {x y : IV} (h1 : runF pg F (n + 1) 0 [x] h = .ok (.bl true) h) (h3 : runF pg F (n + 1) 0 [y] h = .ok (.bl false) h) : runF pg F (n + 3) 16 [.tup [x, y]] h = .ok (.bl false) h := by
  have h2 := r_pair_t (F := F) (n := n) (h := h) (x := [x, y])
  simp [run_step (n := n + 2), run_step (n := n + 1), pg, d_16, d_11, h1, h2, h3]
theorem nv_bi {b : Bool} {i : Int} : NV F n h (.tup [.bl b, .int i]) := ⟨false, share_no1 r_whole_b, by simp [run_step (n := n + 2), pg, d_34, loopL, noExc, wipeR, backR]⟩
theorem nv_ib {b : Bool} {i : Int} : NV F n h (.tup [.int i, .bl b]) := ⟨false, share_no2 r_whole_i r_whole_b, by simp [run_step (n := n + 2), pg, d_34, loopL, noExc, wipeR, backR]⟩
theorem nv_ti {b : List IV} {i : Int} : NV F n h (.tup [.tup b, .int i]) := ⟨false, share_no1 r_whole_t, by simp [run_step (n := n + 2), pg, d_34, loopL, noExc, wipeR, backR]⟩
theorem nv_ni {i : Int} : NV F n h (.tup [.non, .int i]) := ⟨false, share_no1 r_whole_n, by simp [run_step (n := n + 2), pg, d_34, loopL, noExc, wipeR, backR]⟩
theorem nv_si {s : Str} {i : Int} : NV F n h (.tup [.str s, .int i]) := ⟨false, share_no1 r_whole_s, by simp [run_step (n := n + 2), pg, d_34, loopL, noExc, wipeR, backR]⟩
end
end Lk

namespace Lk
open PySem Mi
def nth : CSs → Nat → CS
  | .cons a _, 0 => a
  | .cons _ l, i + 1 => nth l i
  | .nil, _ => .pss
def dropS : CSs → Nat → CSs
  | l, 0 => l
  | .cons _ l, i + 1 => dropS l i
  | .nil, _ => .nil
theorem chain {cl : Nat → List IV → Sto → Rc} {F : Nat} {l : CSs} {a : CS} {t : CSs} {s s' : S} {X : R Fl} (e : l = .cons a t) (h : evS cl F a s = .ok .nx s') (k : evSs cl F t s' = X) : evSs cl F l s = X := by
  subst e
  rw [← k]
  simp [h]
theorem chain_rt {cl : Nat → List IV → Sto → Rc} {F : Nat} {l : CSs} {a : CS} {t : CSs} {s s' : S} {v : IV} (e : l = .cons a t) (h : evS cl F a s = .ok (.rt v) s') : evSs cl F l s = .ok (.rt v) s' := by
  subst e
  simp [h]
theorem repr_same {x : IV} {d : PyData} (h : iRepr x = some (.str d.shown)) : oNot (iEq (.str d.shown) (.str d.shown)) = some false := by simp
/-- the slots of _law_right -/
abbrev St14 (a0 a1 a2 a3 a4 a5 a6 a7 a8 a9 a10 a11 a12 a13 : Option SV) (h : Sto) : S := ⟨[a0, a1, a2, a3, a4, a5, a6, a7, a8, a9, a10, a11, a12, a13], h⟩
abbrev vv (x : IV) : Option SV := some (.v x)
theorem len_fr {q : Rat} {k : Nat} (h : RB k q) (hk : 0 < k) (hk2 : k ≤ 1900) : (PyData.shown (.int q.num)).length ≤ 600 ∧ (PyData.shown (.int q.den)).length ≤ 600 := by
  have e : (2 : Nat) ^ 1900 ≤ 10 ^ 599 := by decide
  have h1 : q.num.natAbs < 10 ^ 599 := Nat.lt_of_lt_of_le (h.1.mono hk2) e
  have h2 : (q.den : Int).natAbs < 10 ^ 599 := Nat.lt_of_lt_of_le (h.2.mono hk2) e
  exact ⟨shown_int_len (by decide) h1, shown_int_len (by decide) h2⟩
theorem shows {x : Int} {k : Nat} (h : B k x) (hk : 0 < k) (hk2 : k ≤ 1900) : x.natAbs.log2 < 1920 := by
  have := log_lt hk h
  omega
/-- repr of fractions, and of an int behind them -/
theorem wt_int {x : Int} {k : Nat} (h : B k x) (hk : 0 < k) : PyData.weight (.int x) ≤ k := by
  unfold PyData.weight
  split
  · omega
  · have := log_lt hk h
    omega
theorem repr_fr {q : Rat} {k : Nat} (h : RB k q) (hk : 0 < k) (hk2 : k ≤ 1900) : iRepr (fr q) = some (.str (dF q).shown) := by
  obtain ⟨l1, l2⟩ := len_fr h hk hk2
  have s1 := shows h.1 hk hk2
  have s2 := shows h.2 hk hk2
  have w1 := wt_int h.1 hk
  have w2 := wt_int h.2 hk
  refine repr_ok (toD_fr q) ?_ ?_ ?_ ?_
  · simp [dF, PyData.showable, PyData.showableAll]
    exact ⟨s1, by simpa using s2⟩
  · simp [dF, PyData.depth, PyData.depthAll]
  · simp [dF, PyData.leavesShort, PyData.leavesShortAll]
    exact ⟨l1, l2⟩
  · simp only [dF, PyData.weight, PyData.weightAll] at w1 w2 ⊢
    omega
/-- what repr can tell -/
structure Gd1 (d : PyData) : Prop where
  sh : d.showable = true
  dp : d.depth ≤ 50
  lv : d.leavesShort 600 = true
  wt : d.weight ≤ 4000
theorem gd_fr {q : Rat} {k : Nat} (h : RB k q) (hk : 0 < k) (hk2 : k ≤ 1900) : Gd1 (dF q) := by
  obtain ⟨l1, l2⟩ := len_fr h hk hk2
  have s1 := shows h.1 hk hk2
  have s2 := shows h.2 hk hk2
  have w1 := wt_int h.1 hk
  have w2 := wt_int h.2 hk
  refine ⟨?_, ?_, ?_, ?_⟩
  · simp [dF, PyData.showable, PyData.showableAll]
    exact ⟨s1, by simpa using s2⟩
  · simp [dF, PyData.depth, PyData.depthAll]
  · simp [dF, PyData.leavesShort, PyData.leavesShortAll]
    exact ⟨l1, l2⟩
  · simp only [dF, PyData.weight, PyData.weightAll] at w1 w2 ⊢
    omega
theorem gd_int {x : Int} {k : Nat} (h : B k x) (hk : 0 < k) (hk2 : k ≤ 1900) : Gd1 (.int x) := by
  have e : (2 : Nat) ^ 1900 ≤ 10 ^ 599 := by decide +kernel
  have l1 := shown_int_len (k := 599) (by decide) (Nat.lt_of_lt_of_le (h.mono hk2) e)
  have s1 := shows h hk hk2
  have w1 := wt_int h hk
  refine ⟨?_, ?_, ?_, by omega⟩
  · simpa [PyData.showable] using s1
  · simp [PyData.depth]
  · simpa [PyData.leavesShort] using l1
theorem gds : ∀ {ds : List PyData}, (∀ d ∈ ds, Gd1 d) → PyData.showableAll ds = true ∧ PyData.depthAll ds ≤ 50 ∧ PyData.leavesShortAll 600 ds = true ∧ PyData.weightAll ds ≤ 4001 * ds.length
  | [], _ => by simp [PyData.showableAll, PyData.depthAll, PyData.leavesShortAll, PyData.weightAll]
  | d :: ds, h => by
    obtain ⟨h1, h2, h3, h4⟩ := gds fun x hx => h x (List.mem_cons_of_mem _ hx)
    have hd := h d (List.mem_cons_self ..)
    refine ⟨by simp [PyData.showableAll, hd.sh, h1], ?_, by simp [PyData.leavesShortAll, hd.lv, h3], ?_⟩
    · simp only [PyData.depthAll]
      have := hd.dp
      omega
    · simp only [PyData.weightAll, List.length_cons]
      have := hd.wt
      omega
theorem repr_lst {xs : List IV} {ds : List PyData} (h : toDs xs = some ds) (g : ∀ d ∈ ds, Gd1 d) (hl : ds.length ≤ 6) : iRepr (.lst xs) = some (.str (PyData.list ds).shown) := by
  obtain ⟨h1, h2, h3, h4⟩ := gds g
  refine repr_ok (by unfold toD; rw [h]; rfl) (by simpa [PyData.showable] using h1) ?_ (by simpa [PyData.leavesShort] using h3) ?_
  · simp only [PyData.depth]; omega
  · simp only [PyData.weight]; omega
end Lk

namespace Lk
open PySem Mi
section
variable {F n : Nat} {h : Sto} {p q t : Rat}
abbrev cl7 (F n : Nat) : Nat → List IV → Sto → Rc := runF pg F (n + 6)
theorem st0 (hF : Big F) {m k : Nat} (w : Bw h m k) (hk : k < 900000) : ∃ (p q t : Rat) (h' : Sto), evS (cl7 F n) F (nth d_37.body 0) (St14 (vv (.obj m)) none none none none none none none none none none none none none h) =
    .ok .nx (St14 (vv (.obj m)) (vv (fr p)) (vv (fr q)) (vv (fr t)) none none none none none none none none none none h') ∧ RB 48 p ∧ RB 48 q ∧ RB 48 t ∧ Bw h' m (k + 12) := by
  obtain ⟨p, h1, e1, b1, w1⟩ := r_drawn (n := n + 3) hF w (by omega)
  obtain ⟨q, h2, e2, b2, w2⟩ := r_drawn (n := n + 3) hF w1 (by omega)
  obtain ⟨t, h3, e3, b3, w3⟩ := r_drawn (n := n + 3) hF w2 (by omega)
  refine ⟨p, q, t, h3, ?_, b1, b2, b3, w3⟩
  change evS _ _ (CS.par _ _) _ = _
  simp [e1, e2, e3]
theorem st1 (hF : Big F) (hp : RB 48 p) (hq : RB 48 q) {a0 a3 : Option SV} : evS (cl7 F n) F (nth d_37.body 1) (St14 a0 (vv (fr p)) (vv (fr q)) a3 none none none none none none none none none none h) =
    .ok .nx (St14 a0 (vv (fr p)) (vv (fr q)) a3 (vv (.lst [fr (p + q), fr (p - q), fr (p * q), .int (ord p q)])) none none none none none none none none none h) := by
  have h1 := r_lplus (n := n + 3) (h := h) hF (hp.mono (by decide)) (hq.mono (by decide))
  have h2 := r_lminus (n := n + 3) (h := h) hF (hp.mono (by decide)) (hq.mono (by decide))
  have h3 := r_ltimes (n := n + 3) (h := h) hF (hp.mono (by decide)) (hq.mono (by decide))
  have h4 := r_order (n := n + 4) (F := F) (h := h) (hp.mono (by decide)) (hq.mono (by decide))
  change evS _ _ (CS.asg _ _) _ = _
  simp [h1, h2, h3, h4]
theorem st2 (hp : RB 48 p) (hq : RB 48 q) {a0 a3 : Option SV} {L : List IV} (hL : L = [fr (p + q), fr (p - q), fr (p * q), .int (ord p q)]) : evS (cl7 F n) F (nth d_37.body 2) (St14 a0 (vv (fr p)) (vv (fr q)) a3 (vv (.lst L)) none none none none none none none none none h) =
    .ok .nx (St14 a0 (vv (fr p)) (vv (fr q)) a3 (vv (.lst L)) none none none none none none none none none h) := by
  have sp := sh_of (hp.mono (by decide))
  have sq := sh_of (hq.mono (by decide))
  have h1 := r_added (F := F) (n := n) (h := h) sp sq
  have h2 := r_less (F := F) (n := n) (h := h) sp sq
  have h3 := r_multiplied (F := F) (n := n) (h := h) sp sq
  have h4 := r_compared (F := F) (n := n) (h := h) sp sq
  have ho : B 2 (ord p q) := by
    unfold B ord
    split <;> split <;> decide
  have hr : iRepr (.lst [fr (p + q), fr (p - q), fr (p * q), .int (ord p q)]) = some (.str (PyData.list [dF (p + q), dF (p - q), dF (p * q), .int (ord p q)]).shown) := by
    refine repr_lst (by simp [toDs, toD_fr, toD]) (fun d hd => ?_) (by simp)
    simp at hd
    rcases hd with rfl | rfl | rfl | rfl
    · exact gd_fr (addB hp hq) (by decide) (by decide)
    · exact gd_fr (subB hp hq) (by decide) (by decide)
    · exact gd_fr (mulB hp hq) (by decide) (by decide)
    · exact gd_int ho (by decide) (by decide)
  rw [hL]
  change evS _ _ (CS.ife _ _ _) _ = _
  simp [h1, h2, h3, h4, hr]
end
end Lk

namespace Lk
open PySem Mi
@[simp] theorem ix_fr0 (q : Rat) : iIdx (fr q) (.int 0) = some (.int q.num) := rfl
@[simp] theorem ix_fr1 (q : Rat) : iIdx (fr q) (.int 1) = some (.int q.den) := rfl
@[simp] theorem deref_fr (h : Sto) (q : Rat) : deref h (fr q) = fr q := rfl
@[simp] theorem eq_fr' (p q : Rat) : iEq (fr p) (fr q) = some (decide (p = q)) := eq_fr p q
theorem eq_fr0 (q : Rat) : iEq (fr q) (.tup [.int 0, .int 1]) = some (decide (q = 0)) := eq_fr q 0
section
variable {F n : Nat} {h : Sto} {p q t : Rat}
theorem st3 (hF : Big F) (hp : RB 48 p) (hq : RB 48 q) {a0 a3 a4 : Option SV} : ∃ a5, evS (cl7 F n) F (nth d_37.body 3) (St14 a0 (vv (fr p)) (vv (fr q)) a3 a4 none none none none none none none none none h) =
    .ok .nx (St14 a0 (vv (fr p)) (vv (fr q)) a3 a4 a5 none none none none none none none none h) := by
  by_cases h0 : q = 0
  · refine ⟨none, ?_⟩
    change evS _ _ (CS.ife _ _ _) _ = _
    simp [eq_fr0, h0]
  · refine ⟨vv (fr (p / q)), ?_⟩
    have sp := sh_of (hp.mono (by decide))
    have sq := sh_of (hq.mono (by decide))
    have bq := quoB hp hq h0
    have h1 := r_divided (F := F) (n := n) (h := h) sp sq h0
    have h2 := r_multiplied (F := F) (n := n) (h := h) (sh_of (bq.mono (by decide))) sq
    rw [Rat.div_mul_cancel h0] at h2
    have h3 := r_lshare (F := F) (n := n + 4) (h := h) (a := p.num * q.den) (b := p.den * q.num) (mul_ne (dn p) (num_ne h0)) ((hp.2.mul hq.1).mono (by decide)) (hF.lt (hp.2.mul hq.1))
    rw [div_div] at h3
    obtain ⟨m1, m2, m3, m4, m5⟩ := prods (hp.mono (by decide)) (hq.mono (by decide))
    have hr := repr_fr bq (by decide) (by decide)
    change evS _ _ (CS.ife _ _ _) _ = _
    simp [eq_fr0, h0, h1, h2, h3, m1, m5, hr]
theorem st4 (hp : RB 48 p) (hq : RB 48 q) {a0 a3 a4 a5 : Option SV} : evS (cl7 F n) F (nth d_37.body 4) (St14 a0 (vv (fr p)) (vv (fr q)) a3 a4 a5 none none none none none none none none h) =
    .ok .nx (St14 a0 (vv (fr p)) (vv (fr q)) a3 a4 a5 none none none none none none none none h) := by
  have sp := sh_of (hp.mono (by decide))
  have sq := sh_of (hq.mono (by decide))
  have h1 := r_added (F := F) (n := n) (h := h) sp sq
  have h2 := r_less (F := F) (n := n) (h := h) (sh_of ((addB hp hq).mono (by decide))) sq
  rw [Rat.add_sub_cancel] at h2
  change evS _ _ (CS.ife _ _ _) _ = _
  simp [h1, h2]
theorem st5 (hp : RB 48 p) (hq : RB 48 q) (ht : RB 48 t) {a0 a5 : Option SV} {r : List IV} : evS (cl7 F n) F (nth d_37.body 5) (St14 a0 (vv (fr p)) (vv (fr q)) (vv (fr t)) (vv (.lst (fr (p + q) :: r))) a5 none none none none none none none none h) =
    .ok .nx (St14 a0 (vv (fr p)) (vv (fr q)) (vv (fr t)) (vv (.lst (fr (p + q) :: r))) a5 none none none none none none none none h) := by
  have sp := sh_of (hp.mono (by decide))
  have sq := sh_of (hq.mono (by decide))
  have stt := sh_of (ht.mono (by decide))
  have h1 := r_multiplied (F := F) (n := n) (h := h) sp stt
  have h2 := r_multiplied (F := F) (n := n) (h := h) sq stt
  have h3 := r_added (F := F) (n := n) (h := h) (sh_of ((mulB hp ht).mono (by decide))) (sh_of ((mulB hq ht).mono (by decide)))
  have h4 := r_multiplied (F := F) (n := n) (h := h) (sh_of ((addB hp hq).mono (by decide))) stt
  rw [Rat.add_mul] at h4
  change evS _ _ (CS.ife _ _ _) _ = _
  simp [h1, h2, h3, h4]
theorem st6 {m k : Nat} (w : Bw h m k) (hk : k < 900000) (hp : RB 48 p) (hq : RB 48 q) (ht : RB 48 t) {a4 a5 : Option SV} : ∃ (q0 : Rat) (qs : List Rat) (h' : Sto), evS (cl7 F n) F (nth d_37.body 6) (St14 (vv (.obj m)) (vv (fr p)) (vv (fr q)) (vv (fr t)) a4 a5 none none none none none none none none h) =
    .ok .nx (St14 (vv (.obj m)) (vv (fr p)) (vv (fr q)) (vv (fr t)) a4 a5 (vv (.tup ((q0 :: qs).map fr))) none none none none none none none h') ∧ RBs 48 (q0 :: qs) ∧ qs.length ≤ 2 ∧ Bw h' m (k + 1) := by
  obtain ⟨r, h', e, r1, r2, w'⟩ := r_scoop (F := F) (n := n + 5) (t := 3) w (by omega) (by decide) (by unfold B; decide)
  have hr : r = 0 ∨ r = 1 ∨ r = 2 := by omega
  rcases hr with rfl | rfl | rfl
  · refine ⟨p, [], h', ?_, fun x hx => ?_, by simp, w'⟩
    · change evS _ _ (CS.asg _ _) _ = _
      simp [e, chkP, okP, isNon]
      rfl
    · simp at hx; rw [hx]; exact hp
  · refine ⟨p, [q], h', ?_, fun x hx => ?_, by simp, w'⟩
    · change evS _ _ (CS.asg _ _) _ = _
      simp [e, chkP, okP, isNon]
      rfl
    · simp at hx; rcases hx with rfl | rfl; exact hp; exact hq
  · refine ⟨p, [q, t], h', ?_, fun x hx => ?_, by simp, w'⟩
    · change evS _ _ (CS.asg _ _) _ = _
      simp [e, chkP, okP, isNon]
      rfl
    · simp at hx; rcases hx with rfl | rfl | rfl; exact hp; exact hq; exact ht
end
end Lk

namespace Lk
open PySem Mi
theorem ll_cons (f : IV → S → R (List IV)) (x : IV) (xs : List IV) (s : S) : loopL f (x :: xs) s = (f x s).bind fun y s1 => (loopL f xs s1).bind fun ys s2 => .ok (y ++ ys) s2 := rfl
section
variable {F n : Nat} {h : Sto} {p q t : Rat}
theorem draws (hF : Big F) {m : Nat} {a1 a2 a3 a4 a5 a6 a8 a9 a10 a11 a12 a13 : Option SV} : ∀ (is : List IV) (k : Nat) (h : Sto) (b : Option SV), Bw h m k → k + 4 * is.length < 900000 → ∃ (qs : List Rat) (h' : Sto) (b' : Option SV),
    loopL (fun x s2 => match asgT (.nm 7) [x] (wipeR s2.r [7]) with
      | some r => (evT (cl7 F n) .yes ⟨r, s2.h⟩).bind fun k s3 => if k then (evE (cl7 F n) (.call ("_law_drawn" : Str) 35 (.cons (.var 0) .nil)) s3).bind fun y s4 => R.ok [y] s4 else .ok [] s3
      | none => .bad) is (St14 (vv (.obj m)) a1 a2 a3 a4 a5 a6 b a8 a9 a10 a11 a12 a13 h) = .ok (qs.map fr) (St14 (vv (.obj m)) a1 a2 a3 a4 a5 a6 b' a8 a9 a10 a11 a12 a13 h') ∧ qs.length = is.length ∧ RBs 48 qs ∧ Bw h' m (k + 4 * is.length)
  | [], k, h, b, w, _ => ⟨[], h, b, rfl, rfl, fun _ hx => by simp at hx, w⟩
  | i :: is, k, h, b, w, hk => by
    rw [List.length_cons] at hk
    obtain ⟨q, h1, e1, b1, w1⟩ := r_drawn (n := n + 3) hF w (by omega)
    obtain ⟨qs, h2, b', e2, l2, r2, w2⟩ := draws hF is (k + 4) h1 (vv i) w1 (by omega)
    refine ⟨q :: qs, h2, b', ?_, by simp [l2], ?_, ?_⟩
    · rw [ll_cons]
      simp [wipeR, e1]
      simp [wipeR] at e2
      rw [e2]
      simp
    · intro x hx
      rcases List.mem_cons.mp hx with rfl | hx
      · exact b1
      · exact r2 x hx
    · rw [List.length_cons]
      exact w2.mono (by omega)
theorem st7 (hF : Big F) {m k : Nat} (w : Bw h m k) (hk : k < 800000) {q0 : Rat} {qs : List Rat} (hq : RBs 48 (q0 :: qs)) (hl : qs.length ≤ 2) {a1 a2 a3 a4 a5 : Option SV} : ∃ (qs' : List Rat) (h' : Sto),
    evS (cl7 F n) F (nth d_37.body 7) (St14 (vv (.obj m)) a1 a2 a3 a4 a5 (vv (.tup ((q0 :: qs).map fr))) none none none none none none none h) =
    .ok .nx (St14 (vv (.obj m)) a1 a2 a3 a4 a5 (vv (.tup ((q0 :: qs').map fr))) none none none none none none none h') ∧ RBs 48 (q0 :: qs') ∧ qs'.length ≤ 5 ∧ Bw h' m (k + 13) := by
  obtain ⟨r, h1, e, r1, r2, w1⟩ := r_scoop (F := F) (n := n + 5) (t := 4) w (by omega) (by decide) (by unfold B; decide)
  have hlen : (rngL 0 r.toNat).length = r.toNat := by unfold rngL; simp
  obtain ⟨ds, h2, b', e2, l2, d2, w2⟩ := draws (n := n) (a1 := a1) (a2 := a2) (a3 := a3) (a4 := a4) (a5 := a5) (a6 := vv (.tup ((q0 :: qs).map fr))) (a8 := none) (a9 := none) (a10 := none) (a11 := none) (a12 := none) (a13 := none) hF (rngL 0 r.toNat) (k + 1) h1 none w1 (by rw [hlen]; omega)
  rw [hlen] at l2 w2
  have hf : far r = true := by
    unfold far
    have : (4 : Int) < 2 ^ 62 := by decide
    simp
    omega
  refine ⟨qs ++ ds, h2, ?_, ?_, by rw [List.length_append]; omega, w2.mono (by omega)⟩
  · change evS _ _ (CS.asg _ _) _ = _
    have hz : lineOk ds.length = true := lk_small (by omega)
    have hz2 : lineOk (qs.length + 1 + ds.length) = true := lk_small (by omega)
    simp [wipeR] at e2
    simp [e, hf, wipeR, e2, noExc, backR, hz, hz2]
  · intro x hx
    rw [List.mem_cons, List.mem_append] at hx
    rcases hx with rfl | hx | hx
    · exact hq _ (List.mem_cons_self ..)
    · exact hq x (List.mem_cons_of_mem _ hx)
    · exact d2 x hx
theorem st8 {q0 : Rat} {qs : List Rat} {a0 a1 a2 a3 a4 a5 : Option SV} : evS (cl7 F n) F (nth d_37.body 8) (St14 a0 a1 a2 a3 a4 a5 (vv (.tup ((q0 :: qs).map fr))) none none none none none none none h) =
    .ok .nx (St14 a0 a1 a2 a3 a4 a5 (vv (.tup ((q0 :: qs).map fr))) none (vv (fr 0)) (vv (fr q0)) none none none none h) := by
  change evS _ _ (CS.par _ _) _ = _
  simp [fr0]
theorem st9 (hF : Big F) {q0 : Rat} {qs : List Rat} (hq : RBs 48 (q0 :: qs)) (hl : qs.length ≤ 5) {a0 a1 a2 a3 a4 a5 : Option SV} : ∃ a10, evS (cl7 F n) F (nth d_37.body 9) (St14 a0 a1 a2 a3 a4 a5 (vv (.tup ((q0 :: qs).map fr))) none (vv (fr 0)) (vv (fr q0)) none none none none h) =
    .ok .nx (St14 a0 a1 a2 a3 a4 a5 (vv (.tup ((q0 :: qs).map fr))) none (vv (fr (summ 0 (q0 :: qs)))) (vv (fr (lowest q0 (q0 :: qs)))) a10 none none none h) := by
  have loop : ∀ (rs : List Rat) (k : Nat) (acc low : Rat) (b : Option SV) (a6 : Option SV), RB k acc → RB 48 low → RBs 48 rs → Fit k rs.length → ∃ c, loopF (fun x s2 => match asgT (.nm 10) [x] s2.r with
      | some r => evSs (cl7 F n) F (.cons (.par [8, 9] [(.e (.call ("_law_plus" : Str) 30 (.cons (.var 8) (.cons (.var 10) .nil)))), (.e (.ife (.val (.call ("_law_less" : Str) 33 (.cons (.var 10) (.cons (.var 9) .nil)))) (.var 10) (.var 9)))]) .nil) ⟨r, s2.h⟩
      | none => R.bad) (rs.map fr) (St14 a0 a1 a2 a3 a4 a5 a6 none (vv (fr acc)) (vv (fr low)) b none none none h) = .ok .nx (St14 a0 a1 a2 a3 a4 a5 a6 none (vv (fr (summ acc rs))) (vv (fr (lowest low rs))) c none none none h) := by
    intro rs
    induction rs with
    | nil => intro k acc low b a6 _ _ _ _; exact ⟨b, rfl⟩
    | cons q rs ih =>
      intro k acc low b a6 ha hlow hq hf
      have hk := Fit.head hf
      have hq1 := hq q (List.mem_cons_self ..)
      have h1 := r_lplus (n := n + 3) (h := h) hF (ha.mono hk) (hq1.mono (by decide))
      have h2 := r_lless (F := F) (n := n + 5) (h := h) (hq1.mono (by decide)) (hlow.mono (by decide))
      obtain ⟨c, hc⟩ := ih (k + 48 + 1) (acc + q) (if q < low then q else low) (vv (fr q)) a6 (addB2 ha hq1) (by split; exact hq1; exact hlow) (fun x hx => hq x (List.mem_cons_of_mem _ hx)) (Fit.next hf)
      refine ⟨c, ?_⟩
      rw [List.map_cons, lf_cons]
      simp at hc
      by_cases hlt : q < low
      · simp [h1, h2, summ, lowest, hlt]
        simpa [hlt] using hc
      · simp [h1, h2, summ, lowest, hlt]
        simpa [hlt] using hc
  obtain ⟨c, hc⟩ := loop (q0 :: qs) 1 0 q0 none (vv (.tup ((q0 :: qs).map fr))) (zeroB (by decide)) (hq q0 (List.mem_cons_self ..)) hq (by unfold Fit; rw [List.length_cons]; omega)
  refine ⟨c, ?_⟩
  change evS _ _ (CS.loop _ _ _) _ = _
  simp at hc
  simp [hc]
end
end Lk

namespace Lk
open PySem Mi
@[simp] theorem b_str_fr (q : Rat) : iBlt .str [fr q] = iRepr (fr q) := rfl
@[simp] theorem b_list_fr (q : Rat) : iBlt .list [fr q] = some (.lst [.int q.num, .int q.den]) := rfl
@[simp] theorem sli_fr (q : Rat) : iSli (fr q) .non (.int 1) = some (.tup [.int q.num]) := rfl
@[simp] theorem add_fr1 (q : Rat) : iAdd (fr q) (.tup [.int 1]) = some (.tup [.int q.num, .int q.den, .int 1]) := by
  unfold fr iAdd
  simp
@[simp] theorem repr_bl (k : Bool) : iRepr (.bl k) = some (.str (PyData.shown (.bool k))) := by cases k <;> rfl
theorem NV.def' {F n : Nat} {h : Sto} {v : IV} (x : NV F n h v) : ∃ k, runF pg F (n + 3) 16 [v] h = .ok (.bl k) h ∧ runF pg F (n + 3) 34 [v] h = .ok (.bl k) h := x
section
variable {F n : Nat} {h : Sto} {p q t : Rat}
theorem st10 {q0 : Rat} {qs : List Rat} (hq : RBs 48 (q0 :: qs)) (hl : qs.length ≤ 5) {a0 a1 a2 a3 a4 a5 a10 : Option SV} : evS (cl7 F n) F (nth d_37.body 10) (St14 a0 a1 a2 a3 a4 a5 (vv (.tup ((q0 :: qs).map fr))) none (vv (fr (summ 0 (q0 :: qs)))) (vv (fr (lowest q0 (q0 :: qs)))) a10 none none none h) =
    .ok .nx (St14 a0 a1 a2 a3 a4 a5 (vv (.tup ((q0 :: qs).map fr))) none (vv (fr (summ 0 (q0 :: qs)))) (vv (fr (lowest q0 (q0 :: qs)))) a10 none none none h) := by
  have h1 := r_summed (F := F) (n := n) (h := h) hq (by unfold Fit; rw [List.length_cons]; omega)
  have h2 := r_least (F := F) (n := n) (h := h) (hq.mono (by decide))
  have h3 := r_summed (F := F) (n := n) (h := h) (qs := []) (fun _ hx => by simp at hx) (by unfold Fit; simp)
  have bs := summB (zeroB (k := 1) (by decide)) hq
  have bl := lowB (hq q0 (List.mem_cons_self ..)) hq
  have hr : iRepr (.lst [fr (summ 0 (q0 :: qs)), fr (lowest q0 (q0 :: qs)), fr 0]) = some (.str (PyData.list [dF (summ 0 (q0 :: qs)), dF (lowest q0 (q0 :: qs)), dF 0]).shown) := by
    refine repr_lst (by simp [toDs, toD_fr]) (fun d hd => ?_) (by simp)
    simp at hd
    rcases hd with rfl | rfl | rfl
    · exact gd_fr bs (by omega) (by rw [List.length_cons]; omega)
    · exact gd_fr bl (by decide) (by decide)
    · exact gd_fr (zeroB (k := 1) (by decide)) (by decide) (by decide)
  simp at h1 h2 h3
  change evS _ _ (CS.ife _ _ _) _ = _
  simp [h1, h2, h3, summ, fr0] at hr ⊢
  simp [hr]
theorem st11 {m k : Nat} (w : Bw h m k) (hk : k < 900000) {a1 a2 a3 a4 a5 a6 a8 a9 a10 : Option SV} : ∃ (v : Int) (h' : Sto), evS (cl7 F n) F (nth d_37.body 11) (St14 (vv (.obj m)) a1 a2 a3 a4 a5 a6 none a8 a9 a10 none none none h) =
    .ok .nx (St14 (vv (.obj m)) a1 a2 a3 a4 a5 a6 none a8 a9 a10 (vv (.int v)) none none h') ∧ B 67 v ∧ v ≠ 0 ∧ Bw h' m (k + 1) := by
  obtain ⟨x, h1, hx, e, w1⟩ := r_one_of (F := F) (n := n + 4) (xs := [.int 1, .int 2, .int 6, .int (-1), .int (-35), .int 100000000000000000000]) w (by omega) (by simp) (by simp)
  obtain ⟨v, rfl, b, n0⟩ : ∃ v : Int, x = .int v ∧ B 67 v ∧ v ≠ 0 := by
    simp at hx
    rcases hx with rfl | rfl | rfl | rfl | rfl | rfl <;> exact ⟨_, rfl, by unfold B; decide, by decide⟩
  refine ⟨v, h1, ?_, b, n0, w1⟩
  have p1 : powOk 10 20 = true := by decide
  change evS _ _ (CS.asg _ _) _ = _
  simp [p1, e]
theorem lt60 {x : Int} (h : B 115 x) : -(10 ^ 60) < x ∧ x < 10 ^ 60 := by
  unfold B at h
  have e : (2 : Int) ^ 115 < 10 ^ 60 := by decide
  have e2 : ((2 ^ 115 : Nat) : Int) = 2 ^ 115 := by decide
  omega
theorem st12 (hp : RB 48 p) {v : Int} (hv : B 67 v) (v0 : v ≠ 0) {a0 a2 a3 a4 a5 a6 a8 a9 a10 : Option SV} : evS (cl7 F n) F (nth d_37.body 12) (St14 a0 (vv (fr p)) a2 a3 a4 a5 a6 none a8 a9 a10 (vv (.int v)) none none h) =
    .ok .nx (St14 a0 (vv (fr p)) a2 a3 a4 a5 a6 none a8 a9 a10 (vv (.int v)) none none h) := by
  have m1 : mulOk p.num v = true := mulOk_of hp.1 hv
  have m2 : mulOk p.den v = true := mulOk_of hp.2 hv
  have l1 := lt60 ((hp.1.mul hv).mono (by decide))
  have l2 := lt60 ((hp.2.mul hv).mono (by decide))
  have h1 := r_fraction (F := F) (n := n + 3) (h := h) l1.1 l1.2 l2.1 l2.2 (mul_ne (dn p) v0)
  rw [Rat.divInt_mul_right v0, Rat.num_divInt_den] at h1
  have hr := repr_fr hp (by decide) (by decide)
  change evS _ _ (CS.ife _ _ _) _ = _
  simp [m1, m2, h1, hr]
end
end Lk

namespace Lk
open PySem Mi
section
variable {F n : Nat} {h : Sto} {p q t : Rat}
/-- near fractions, all three rows -/
def near1 (p : Rat) : List IV := [fr p, .tup [.int (p.num * 2), .int (p.den * 2)], .tup [.int (0 - p.num), .int (0 - p.den)], .lst [.int p.num, .int p.den], .tup [.int p.num, .int p.den, .int 1], .tup [.int p.num], .int p.num, .str (dF p).shown]
def near2 (p : Rat) : List IV := [.non, .tup [.int 0, .int 2], .tup [.int 1, .int 0], .tup [.bl true, .int 1], .tup [.int 1, .bl true], .tup [.int (p.num * 10 ^ 60 + 1), .int (10 ^ 60)], .tup [.int 1, .int (10 ^ 60 * 10 ^ 20)]]
def near3 : List IV := [.tup [.tup [.int 1, .int 2], .int 1], .tup [.int 0, .int (-1)], .dct false [] [], .tup [.int 0, .int 1], .tup [.non, .int 1], .tup [.str ("1" : Str), .int 1]]
theorem st13 (hp : RB 48 p) {a0 a2 a3 a4 a5 a6 a8 a9 a10 a11 : Option SV} : evS (cl7 F n) F (nth d_37.body 13) (St14 a0 (vv (fr p)) a2 a3 a4 a5 a6 none a8 a9 a10 a11 none none h) =
    .ok .nx (St14 a0 (vv (fr p)) a2 a3 a4 a5 a6 none a8 a9 a10 a11 (vv (.lst (near1 p))) none h) := by
  have b2 : B 2 (2 : Int) := by unfold B; decide
  have m1 : mulOk p.num 2 = true := mulOk_of hp.1 b2
  have m2 : mulOk p.den 2 = true := mulOk_of hp.2 b2
  have hr := repr_fr hp (by decide) (by decide)
  change evS _ _ (CS.asg _ _) _ = _
  simp [m1, m2, hr, chkP, okP, isNon, near1]
theorem st14 (hp : RB 48 p) {a0 a2 a3 a4 a5 a6 a8 a9 a10 a11 : Option SV} : evS (cl7 F n) F (nth d_37.body 14) (St14 a0 (vv (fr p)) a2 a3 a4 a5 a6 none a8 a9 a10 a11 (vv (.lst (near1 p))) none h) =
    .ok .nx (St14 a0 (vv (fr p)) a2 a3 a4 a5 a6 none a8 a9 a10 a11 (vv (.lst (near1 p ++ near2 p))) none h) := by
  have b3 : B 200 ((10 : Int) ^ 60) := by unfold B; decide
  have b4 : B 70 ((10 : Int) ^ 20) := by unfold B; decide
  have m1 : mulOk p.num (10 ^ 60) = true := mulOk_of hp.1 b3
  have m2 : mulOk ((10 : Int) ^ 60) (10 ^ 20) = true := mulOk_of b3 b4
  have p1 : powOk 10 60 = true := by decide
  have p2 : powOk 10 20 = true := by decide
  change evS _ _ (CS.asg _ _) _ = _
  simp at m1 m2
  simp [m1, m2, p1, p2, near1, near2]
theorem st15 {a0 a1 a2 a3 a4 a5 a6 a8 a9 a10 a11 : Option SV} : evS (cl7 F n) F (nth d_37.body 15) (St14 a0 a1 a2 a3 a4 a5 a6 none a8 a9 a10 a11 (vv (.lst (near1 p ++ near2 p))) none h) =
    .ok .nx (St14 a0 a1 a2 a3 a4 a5 a6 none a8 a9 a10 a11 (vv (.lst (near1 p ++ near2 p ++ near3))) none h) := by
  change evS _ _ (CS.asg _ _) _ = _
  simp [near1, near2, near3]
theorem near_nv (hF : Big F) (hp : RB 48 p) : ∀ v ∈ near1 p ++ near2 p ++ near3, NV F n h v := by
  have k1 : ∀ {x : Int} {k : Nat}, B k x → k ≤ 8500 → x.natAbs < F := fun h hk => hF.lt h hk
  have b3 : B 200 ((10 : Int) ^ 60) := by unfold B; decide
  have b4 : B 70 ((10 : Int) ^ 20) := by unfold B; decide
  have b2 : B 2 (2 : Int) := by unfold B; decide
  have b1 : B 2 (1 : Int) := by unfold B; decide
  have b0 : B 2 (0 : Int) := by unfold B; decide
  have bm : B 2 (-1 : Int) := by unfold B; decide
  intro v hv
  simp [near1, near2, near3] at hv
  rcases hv with rfl | rfl | rfl | rfl | rfl | rfl | rfl | rfl | rfl | rfl | rfl | rfl | rfl | rfl | rfl | rfl | rfl | rfl | rfl | rfl | rfl
  · exact nv_ints (k1 hp.2 (by decide))
  · exact nv_ints (k1 (hp.2.mul b2) (by decide))
  · exact nv_ints (k1 hp.2.neg (by decide))
  · exact nv_list
  · exact nv_3
  · exact nv_1
  · exact nv_int
  · exact nv_str
  · exact nv_non
  · exact nv_ints (k1 b2 (by decide))
  · exact nv_ints (k1 b0 (by decide))
  · exact nv_bi
  · exact nv_ib
  · exact nv_ints (k1 b3 (by decide))
  · exact nv_ints (k1 (b3.mul b4) (by decide))
  · exact nv_ti
  · exact nv_ints (k1 bm (by decide))
  · exact nv_dct
  · exact nv_ints (k1 b1 (by decide))
  · exact nv_ni
  · exact nv_si
theorem st16 {L : List IV} (hL : ∀ v ∈ L, NV F (n + 3) h v) {a0 a1 a2 a3 a4 a5 a6 a8 a9 a10 a11 : Option SV} : evS (cl7 F n) F (nth d_37.body 16) (St14 a0 a1 a2 a3 a4 a5 a6 none a8 a9 a10 a11 (vv (.lst L)) none h) =
    .ok (.rt (.bl true)) (St14 a0 a1 a2 a3 a4 a5 a6 none a8 a9 a10 a11 (vv (.lst L)) none h) := by
  have loop : ∀ (L : List IV) (a12 b : Option SV), (∀ v ∈ L, NV F (n + 3) h v) → ∃ b', loopL (fun x s2 => match asgT (.nm 13) [x] (wipeR s2.r [13]) with
      | some r => (evT (cl7 F n) (.val (.cmp .ne (.blt .repr (.cons (.call ("is_fraction" : Str) 16 (.cons (.var 13) .nil)) .nil)) (.blt .repr (.cons (.call ("_law_is_fraction" : Str) 34 (.cons (.var 13) .nil)) .nil)))) ⟨r, s2.h⟩).bind fun k s3 => if k then (evE (cl7 F n) (.var 13) s3).bind fun y s4 => R.ok [y] s4 else .ok [] s3
      | none => .bad) L (St14 a0 a1 a2 a3 a4 a5 a6 none a8 a9 a10 a11 a12 b h) = .ok [] (St14 a0 a1 a2 a3 a4 a5 a6 none a8 a9 a10 a11 a12 b' h) := by
    intro L
    induction L with
    | nil => intro a12 b _; exact ⟨b, rfl⟩
    | cons v L ih =>
      intro a12 b hL
      obtain ⟨k, h1, h2⟩ := hL v (List.mem_cons_self ..)
      obtain ⟨c, hc⟩ := ih a12 (vv v) fun x hx => hL x (List.mem_cons_of_mem _ hx)
      refine ⟨c, ?_⟩
      rw [ll_cons]
      simp [wipeR] at hc
      simp [wipeR, h1, h2, hc]
  obtain ⟨c, hc⟩ := loop L (vv (.lst L)) none hL
  change evS _ _ (CS.ret _) _ = _
  simp [wipeR] at hc
  simp [wipeR, hc, noExc, backR]
theorem r_right (hF : Big F) {m k : Nat} (w : Bw h m k) (hk : k < 700000) : ∃ h', runF pg F (n + 7) 37 [.obj m] h = .ok (.bl true) h' ∧ Bw h' m (k + 27) := by
  obtain ⟨p, q, t, h1, e0, hp, hq, ht, w1⟩ := st0 (n := n) hF w (by omega)
  have e1 := st1 (n := n) (h := h1) hF hp hq (a0 := vv (.obj m)) (a3 := vv (fr t))
  have e2 := st2 (F := F) (n := n) (h := h1) hp hq rfl (a0 := vv (.obj m)) (a3 := vv (fr t))
  obtain ⟨a5, e3⟩ := st3 (n := n) (h := h1) hF hp hq (a0 := vv (.obj m)) (a3 := vv (fr t)) (a4 := vv (.lst [fr (p + q), fr (p - q), fr (p * q), .int (ord p q)]))
  have e4 := st4 (F := F) (n := n) (h := h1) hp hq (a0 := vv (.obj m)) (a3 := vv (fr t)) (a4 := vv (.lst [fr (p + q), fr (p - q), fr (p * q), .int (ord p q)])) (a5 := a5)
  have e5 := st5 (F := F) (n := n) (h := h1) hp hq ht (a0 := vv (.obj m)) (a5 := a5) (r := [fr (p - q), fr (p * q), .int (ord p q)])
  obtain ⟨q0, qs, h2, e6, hqs, l6, w2⟩ := st6 (F := F) (n := n) w1 (by omega) hp hq ht (a4 := vv (.lst [fr (p + q), fr (p - q), fr (p * q), .int (ord p q)])) (a5 := a5)
  obtain ⟨qs', h3, e7, hqs', l7, w3⟩ := st7 (n := n) hF w2 (by omega) hqs l6 (a1 := vv (fr p)) (a2 := vv (fr q)) (a3 := vv (fr t)) (a4 := vv (.lst [fr (p + q), fr (p - q), fr (p * q), .int (ord p q)])) (a5 := a5)
  have e8 := st8 (F := F) (n := n) (h := h3) (q0 := q0) (qs := qs') (a0 := vv (.obj m)) (a1 := vv (fr p)) (a2 := vv (fr q)) (a3 := vv (fr t)) (a4 := vv (.lst [fr (p + q), fr (p - q), fr (p * q), .int (ord p q)])) (a5 := a5)
  obtain ⟨a10, e9⟩ := st9 (n := n) (h := h3) hF hqs' l7 (a0 := vv (.obj m)) (a1 := vv (fr p)) (a2 := vv (fr q)) (a3 := vv (fr t)) (a4 := vv (.lst [fr (p + q), fr (p - q), fr (p * q), .int (ord p q)])) (a5 := a5)
  have e10 := st10 (F := F) (n := n) (h := h3) hqs' l7 (a0 := vv (.obj m)) (a1 := vv (fr p)) (a2 := vv (fr q)) (a3 := vv (fr t)) (a4 := vv (.lst [fr (p + q), fr (p - q), fr (p * q), .int (ord p q)])) (a5 := a5) (a10 := a10)
  obtain ⟨v, h4, e11, bv, v0, w4⟩ := st11 (F := F) (n := n) w3 (by omega) (a1 := vv (fr p)) (a2 := vv (fr q)) (a3 := vv (fr t)) (a4 := vv (.lst [fr (p + q), fr (p - q), fr (p * q), .int (ord p q)])) (a5 := a5) (a6 := vv (.tup ((q0 :: qs').map fr))) (a8 := vv (fr (summ 0 (q0 :: qs')))) (a9 := vv (fr (lowest q0 (q0 :: qs')))) (a10 := a10)
  refine ⟨h4, ?_, w4.mono (by omega)⟩
  have run : evSs (cl7 F n) F d_37.body (St14 (vv (.obj m)) none none none none none none none none none none none none none h) = .ok (.rt (.bl true)) (St14 (vv (.obj m)) (vv (fr p)) (vv (fr q)) (vv (fr t)) (vv (.lst [fr (p + q), fr (p - q), fr (p * q), .int (ord p q)])) a5 (vv (.tup ((q0 :: qs').map fr))) none (vv (fr (summ 0 (q0 :: qs')))) (vv (fr (lowest q0 (q0 :: qs')))) a10 (vv (.int v)) (vv (.lst (near1 p ++ near2 p ++ near3))) none h4) := by
    refine chain (t := dropS d_37.body 1) (a := nth d_37.body 0) rfl e0 ?_
    refine chain (t := dropS d_37.body 2) (a := nth d_37.body 1) rfl e1 ?_
    refine chain (t := dropS d_37.body 3) (a := nth d_37.body 2) rfl e2 ?_
    refine chain (t := dropS d_37.body 4) (a := nth d_37.body 3) rfl e3 ?_
    refine chain (t := dropS d_37.body 5) (a := nth d_37.body 4) rfl e4 ?_
    refine chain (t := dropS d_37.body 6) (a := nth d_37.body 5) rfl e5 ?_
    refine chain (t := dropS d_37.body 7) (a := nth d_37.body 6) rfl e6 ?_
    refine chain (t := dropS d_37.body 8) (a := nth d_37.body 7) rfl e7 ?_
    refine chain (t := dropS d_37.body 9) (a := nth d_37.body 8) rfl e8 ?_
    refine chain (t := dropS d_37.body 10) (a := nth d_37.body 9) rfl e9 ?_
    refine chain (t := dropS d_37.body 11) (a := nth d_37.body 10) rfl e10 ?_
    refine chain (t := dropS d_37.body 12) (a := nth d_37.body 11) rfl e11 ?_
    refine chain (t := dropS d_37.body 13) (a := nth d_37.body 12) rfl (st12 hp bv v0) ?_
    refine chain (t := dropS d_37.body 14) (a := nth d_37.body 13) rfl (st13 hp) ?_
    refine chain (t := dropS d_37.body 15) (a := nth d_37.body 14) rfl (st14 hp) ?_
    refine chain (t := dropS d_37.body 16) (a := nth d_37.body 15) rfl st15 ?_
    have e16 := st16 (F := F) (n := n) (h := h4) (near_nv hF hp) (a0 := vv (.obj m)) (a1 := vv (fr p)) (a2 := vv (fr q)) (a3 := vv (fr t)) (a4 := vv (.lst [fr (p + q), fr (p - q), fr (p * q), .int (ord p q)])) (a5 := a5) (a6 := vv (.tup ((q0 :: qs').map fr))) (a8 := vv (fr (summ 0 (q0 :: qs')))) (a9 := vv (fr (lowest q0 (q0 :: qs')))) (a10 := a10) (a11 := vv (.int v))
    exact chain_rt (a := nth d_37.body 16) (t := .nil) rfl e16
  rw [run_step (n := n + 6)]
  show toRc (evSs (cl7 F n) F d_37.body ⟨startR 14 [.obj m], h⟩) = _
  have st : (⟨startR 14 [.obj m], h⟩ : S) = St14 (vv (.obj m)) none none none none none none none none none none none none none h := rfl
  rw [st, run]
  rfl
end
end Lk

namespace Lk
open PySem Mi
theorem intsOf_map : ∀ ns : List Int, intsOf (ns.map IV.int) = some ns
  | [] => rfl
  | n :: ns => by simp [intsOf, intsOf_map ns]
section
variable {F n : Nat} {h : Sto} {p q t : Rat}
theorem cell_bowl {c spot : Int} (h0 : 0 ≤ spot) (h4 : spot < 4) {g : Int} (hg : g = (c.natAbs : Int).fmod ((10 ^ 57) ^ 6)) : 
    Bw (h ++ [.lst [.int (if g - 10 ^ 15 > 0 then g - 10 ^ 15 else 0), .int (g.fmod 2147483563 * 397 + 617 * spot + 29 * (if c < 0 then 1 else 0) + 11), .int 0]]) h.length 0 := by
  have hp : (0 : Int) < (10 ^ 57) ^ 6 := by decide +kernel
  have g1 := fmod_lt (x := (c.natAbs : Int)) hp
  rw [← hg] at g1
  have g2 := fmod_lt (x := g) (t := 2147483563) (by decide)
  have hb : ((10 : Int) ^ 57) ^ 6 < 2 ^ 1200 := by decide +kernel
  have e2 : ((2 ^ 1200 : Nat) : Int) = 2 ^ 1200 := by decide +kernel
  refine ⟨_, _, 0, List.getElem?_concat_length .., ?_, ?_, ?_, by decide, by decide⟩
  · split <;> omega
  · unfold B
    split <;> omega
  · unfold B
    have : (2 : Nat) ^ 60 = 1152921504606846976 := by decide
    split <;> omega
theorem r_bowl {ns : List Int} {i : Nat} (hi : i < 4) : ∃ h', runF pg F (n + 1) 25 [.scr (ns.map IV.int), .int i] h = .ok (.obj h.length) h' ∧ Bw h' h.length 0 := by
  have p1 : powOk 10 57 = true := by decide
  have p2 : powOk 1000000000000000000000000000000000000000000000000000000000 6 = true := by decide +kernel
  have p3 : powOk 10 15 = true := by decide
  have hne : ((10 : Int) ^ 57) ^ 6 ≠ 0 := by decide +kernel
  have e1 : ∀ i : Int, (if i < 0 then -i else i) = (i.natAbs : Int) := fun i => by split <;> omega
  have bi : B 3 (i : Int) := B_of (t := 4) (by omega) (by omega) (by decide)
  have key : ∀ c : Int, ∃ h', toRc (evSs (runF pg F n) F (dropS d_25.body 1) ⟨[vv (.scr (ns.map IV.int)), vv (.int i), vv (.int c), none], h⟩) = .ok (.obj h.length) h' ∧ Bw h' h.length 0 := fun c => by
    have w := cell_bowl (h := h) (c := c) (spot := i) (by omega) (by omega) rfl
    refine ⟨_, ?_, w⟩
    generalize hg : (c.natAbs : Int).fmod ((10 ^ 57) ^ 6) = g
    have g2 := fmod_lt (x := g) (t := 2147483563) (by decide)
    have m1 : mulOk (g.fmod 2147483563) 397 = true := mulOk_of (k := 40) (l := 10) (B_of g2.1 g2.2 (by decide)) (by unfold B; decide)
    have m2 : mulOk 617 i = true := mulOk_of (k := 10) (by unfold B; decide) bi
    have m3 : mulOk 29 1 = true := by decide
    have m4 : mulOk 29 0 = true := by decide
    simp at hg
    by_cases hc : c < 0
    · have e : (c.natAbs : Int) = -c := by omega
      rw [e] at hg
      simp [dropS, d_25, p1, p2, p3, hg, m1, m2, hc, m3, newH]
    · have e : (c.natAbs : Int) = c := by omega
      rw [e] at hg
      simp [dropS, d_25, p1, p2, p3, hg, m1, m2, hc, m4, newH]
  have m5 : mulOk 7309 i = true := mulOk_of (k := 13) (by unfold B; decide) bi
  by_cases hl : i < ns.length
  · obtain ⟨h', e, w⟩ := key ns[i]
    refine ⟨h', ?_, w⟩
    have ha : L2.atI (ns.map IV.int) (i : Int) = some (.int ns[i]) := by rw [atN]; simp [hl]
    rw [← e, run_step]
    show toRc (evSs (runF pg F n) F (.cons (nth d_25.body 0) (dropS d_25.body 1)) ⟨startR 4 [.scr (ns.map IV.int), .int i], h⟩) = _
    refine congrArg toRc (chain (s' := ⟨[vv (.scr (ns.map IV.int)), vv (.int i), vv (.int ns[i]), none], h⟩) rfl ?_ rfl)
    change evS _ _ (CS.asg _ _) _ = _
    simp [hl, ha]
  · obtain ⟨h', e, w⟩ := key (7309 * i + 83 + (ns.take 1).sum.fmod 1000003)
    refine ⟨h', ?_, w⟩
    have hs : iSli (.scr (ns.map IV.int)) .non (.int 1) = some (.lst (List.take 1 (ns.map IV.int))) := by
      cases ns with
      | nil => rfl
      | cons x xs =>
        simp [iSli, ofI, cutI, HT.sIx]
    have hi2 : intsOf (List.take 1 (ns.map IV.int)) = some (ns.take 1) := by
      rw [← List.map_take]; exact intsOf_map _
    rw [← e, run_step]
    show toRc (evSs (runF pg F n) F (.cons (nth d_25.body 0) (dropS d_25.body 1)) ⟨startR 4 [.scr (ns.map IV.int), .int i], h⟩) = _
    refine congrArg toRc (chain (s' := ⟨[vv (.scr (ns.map IV.int)), vv (.int i), vv (.int (7309 * i + 83 + (ns.take 1).sum.fmod 1000003)), none], h⟩) rfl ?_ rfl)
    change evS _ _ (CS.asg _ _) _ = _
    simp [hl, hs, m5, hi2, chkP, okP, isNon]
end
end Lk

namespace Lk
open PySem Mi
theorem fr_lit {a b : Int} (h1 : (Rat.divInt a b).num = a) (h2 : ((Rat.divInt a b).den : Int) = b) : (IV.tup [.int a, .int b]) = fr (Rat.divInt a b) := by
  unfold fr
  rw [h1, h2]
abbrev St6 (a0 a1 a2 a3 a4 a5 : Option SV) (h : Sto) : S := ⟨[a0, a1, a2, a3, a4, a5], h⟩
section
variable {F n : Nat} {h : Sto} {p q t : Rat}
abbrev cl8 (F n : Nat) : Nat → List IV → Sto → Rc := runF pg F (n + 7)
theorem turns (hF : Big F) {m : Nat} {a0 a1 a4 a5 : Option SV} : ∀ (is : List IV) (k : Nat) (h : Sto) (b : Option SV), Bw h m k → k + 27 * is.length < 600000 → ∃ (h' : Sto) (b' : Option SV),
    loopL (fun x s2 => match asgT (.nm 3) [x] (wipeR s2.r [3]) with
      | some r => (evT (cl8 F n) (.not (.val (.call ("_law_right" : Str) 37 (.cons (.var 2) .nil)))) ⟨r, s2.h⟩).bind fun k s3 => if k then (evE (cl8 F n) (.var 3) s3).bind fun y s4 => R.ok [y] s4 else .ok [] s3
      | none => .bad) is (St6 a0 a1 (vv (.obj m)) b a4 a5 h) = .ok [] (St6 a0 a1 (vv (.obj m)) b' a4 a5 h')
  | [], k, h, b, w, _ => ⟨h, b, rfl⟩
  | i :: is, k, h, b, w, hk => by
    rw [List.length_cons] at hk
    obtain ⟨h1, e1, w1⟩ := r_right (n := n) hF w (by omega)
    obtain ⟨h2, b', e2⟩ := turns (a0 := a0) (a1 := a1) (a4 := a4) (a5 := a5) hF is (k + 27) h1 (vv i) w1 (by omega)
    refine ⟨h2, b', ?_⟩
    rw [ll_cons]
    simp [wipeR] at e2
    simp [wipeR, e1, e2]
def bodyF : CSs := match nth d_38.body 0 with
  | .loop _ _ b => b
  | _ => .nil
theorem spot_one (hF : Big F) {ns : List Int} {i : Nat} (hi : i < 4) {a2 a4 a5 : Option SV} : ∃ (h' : Sto) (b2 : Option SV), evSs (cl8 F n) F bodyF (St6 (vv (.scr (ns.map IV.int))) (vv (.int i)) a2 none a4 a5 h) = .ok .nx (St6 (vv (.scr (ns.map IV.int))) (vv (.int i)) b2 none a4 a5 h') := by
  obtain ⟨h1, e1, w1⟩ := r_bowl (F := F) (n := n + 6) (h := h) (ns := ns) hi
  obtain ⟨h2, b', e2⟩ := turns (n := n) (a0 := vv (.scr (ns.map IV.int))) (a1 := vv (.int i)) (a4 := a4) (a5 := a5) hF (rngL 0 4) 0 h1 none w1 (by unfold rngL; simp)
  have hf : far 4 = true := by decide
  refine ⟨h2, vv (.obj h.length), ?_⟩
  simp [wipeR] at e2
  simp [bodyF, nth, d_38, e1, hf, wipeR, e2, noExc, backR]
end
end Lk

namespace Lk
open PySem Mi
section
variable {F n : Nat} {h : Sto} {p q t : Rat}
theorem spots (hF : Big F) {ns : List Int} {a4 a5 : Option SV} : ∀ (is : List IV) (a1 a2 : Option SV) (h : Sto), (∀ x ∈ is, ∃ i : Nat, i < 4 ∧ x = .int i) → ∃ (h' : Sto) (b1 b2 : Option SV),
    loopF (fun x s2 => match asgT (.nm 1) [x] s2.r with
      | some r => evSs (cl8 F n) F bodyF ⟨r, s2.h⟩
      | none => R.bad) is (St6 (vv (.scr (ns.map IV.int))) a1 a2 none a4 a5 h) = .ok .nx (St6 (vv (.scr (ns.map IV.int))) b1 b2 none a4 a5 h')
  | [], a1, a2, h, _ => ⟨h, a1, a2, rfl⟩
  | x :: is, a1, a2, h, hi => by
    obtain ⟨i, h4, rfl⟩ := hi x (List.mem_cons_self ..)
    obtain ⟨h1, b2, e1⟩ := spot_one (n := n) (h := h) (ns := ns) (a2 := a2) (a4 := a4) (a5 := a5) hF h4
    obtain ⟨h2, c1, c2, e2⟩ := spots (ns := ns) (a4 := a4) (a5 := a5) hF is (vv (.int i)) b2 h1 fun y hy => hi y (List.mem_cons_of_mem _ hy)
    refine ⟨h2, c1, c2, ?_⟩
    rw [lf_cons]
    show ((evSs (cl8 F n) F bodyF (St6 (vv (.scr (ns.map IV.int))) (vv (.int i)) a2 none a4 a5 h)).bind _) = _
    rw [e1]
    exact e2
theorem ls0 (hF : Big F) {ns : List Int} : ∃ (h' : Sto) (b1 b2 : Option SV), evS (cl8 F n) F (nth d_38.body 0) (St6 (vv (.scr (ns.map IV.int))) none none none none none h) = .ok .nx (St6 (vv (.scr (ns.map IV.int))) b1 b2 none none none h') := by
  generalize hj : (if (if (ns.length : Int) < 4 then (ns.length : Int) else 4) > 1 then (if (ns.length : Int) < 4 then (ns.length : Int) else 4) else 1) = j
  have j4 : j ≤ 4 := by rw [← hj]; split <;> split <;> omega
  have hf : far j = true := by
    have j0 : 0 ≤ j := by rw [← hj]; split <;> split <;> omega
    unfold far
    have : (4 : Int) < 2 ^ 62 := by decide
    simp
    omega
  obtain ⟨h', b1, b2, e⟩ := spots (n := n) (ns := ns) (a4 := none) (a5 := none) hF (rngL 0 j.toNat) none none h (fun x hx => by
    unfold rngL at hx
    rw [List.mem_map] at hx
    obtain ⟨i, h1, rfl⟩ := hx
    rw [List.mem_range] at h1
    exact ⟨i, by omega, by simp⟩)
  refine ⟨h', b1, b2, ?_⟩
  change evS _ _ (CS.loop _ (.rng1 (.blt .max2 (.cons (.cst (.int 1)) (.cons (.blt .min2 (.cons (.cst (.int 4)) (.cons (.blt .len (.cons (.var 0) .nil)) .nil))) .nil)))) bodyF) _ = _
  have eI : evI (cl8 F n) (.rng1 (.blt .max2 (.cons (.cst (.int 1)) (.cons (.blt .min2 (.cons (.cst (.int 4)) (.cons (.blt .len (.cons (.var 0) .nil)) .nil))) .nil)))) (St6 (vv (.scr (ns.map IV.int))) none none none none none h) = .ok (rngL 0 j.toNat) (St6 (vv (.scr (ns.map IV.int))) none none none none none h) := by
    simp at hj
    simp [hj, hf]
  rw [ev_53, eI]
  exact e
theorem l54 : (IV.tup [.int 5, .int 4]) = fr (Rat.divInt 5 4) := fr_lit (by decide +kernel) (by decide +kernel)
theorem l43 : (IV.tup [.int 4, .int 3]) = fr (Rat.divInt 4 3) := fr_lit (by decide +kernel) (by decide +kernel)
theorem lm12 : (IV.tup [.int (-1), .int 2]) = fr (Rat.divInt (-1) 2) := fr_lit (by decide +kernel) (by decide +kernel)
theorem lm13 : (IV.tup [.int (-1), .int 3]) = fr (Rat.divInt (-1) 3) := fr_lit (by decide +kernel) (by decide +kernel)
theorem l12 : (IV.tup [.int 1, .int 2]) = fr (Rat.divInt 1 2) := fr_lit (by decide +kernel) (by decide +kernel)
theorem l13 : (IV.tup [.int 1, .int 3]) = fr (Rat.divInt 1 3) := fr_lit (by decide +kernel) (by decide +kernel)
theorem l01 : (IV.tup [.int 0, .int 1]) = fr 0 := rfl
/-- 10 ** 29 -/
abbrev fa : Int := 100000000000000000000000000000
theorem lf1 : (IV.tup [.int 100000000000000000000000000000, .int 100000000000000000000000000001]) = fr (Rat.divInt fa (fa + 1)) := fr_lit (by decide +kernel) (by decide +kernel)
theorem lf2 : (IV.tup [.int 100000000000000000000000000001, .int 100000000000000000000000000002]) = fr (Rat.divInt (fa + 1) (fa + 2)) := fr_lit (by decide +kernel) (by decide +kernel)
theorem lf3 : (IV.tup [.int (-1), .int 100000000000000000000000000000]) = fr (Rat.divInt (-1) fa) := fr_lit (by decide +kernel) (by decide +kernel)
theorem fr_val {q : Rat} {a b : Int} (h1 : q.num = a) (h2 : (q.den : Int) = b) : fr q = .tup [.int a, .int b] := by
  unfold fr
  rw [h1, h2]
theorem shD (q : Rat) (h : (decide (-(10 ^ 60) < q.num) && decide (q.num < 10 ^ 60) && decide ((q.den : Int) < 10 ^ 60)) = true) : Sh q := by
  simp only [Bool.and_eq_true, decide_eq_true_eq] at h
  exact ⟨h.1.1, h.1.2, h.2⟩
theorem ls1 {b0 b1 b2 : Option SV} : evS (cl8 F n) F (nth d_38.body 1) (St6 b0 b1 b2 none none none h) = .ok .nx (St6 b0 b1 b2 none (vv (.int 100000000000000000000000000000)) none h) := by
  have p1 : powOk 10 29 = true := by decide
  change evS _ _ (CS.asg _ _) _ = _
  simp [p1]
theorem ls2 {b0 b1 b2 : Option SV} : evS (cl8 F n) F (nth d_38.body 2) (St6 b0 b1 b2 none (vv (.int 100000000000000000000000000000)) none h) = .ok .nx (St6 b0 b1 b2 none (vv (.int 100000000000000000000000000000)) (some (.ol [.int (-1), .int (-1), .int (-1)])) h) := by
  have e1 := r_compared (F := F) (n := n + 1) (h := h) (shD (Rat.divInt 5 4) (by decide +kernel)) (shD (Rat.divInt 4 3) (by decide +kernel))
  have e2 := r_compared (F := F) (n := n + 1) (h := h) (shD (Rat.divInt (-1) 2) (by decide +kernel)) (shD (Rat.divInt (-1) 3) (by decide +kernel))
  have e3 := r_compared (F := F) (n := n + 1) (h := h) (shD (Rat.divInt fa (fa + 1)) (by decide +kernel)) (shD (Rat.divInt (fa + 1) (fa + 2)) (by decide +kernel))
  rw [show ord (Rat.divInt 5 4) (Rat.divInt 4 3) = -1 by decide +kernel] at e1
  rw [show ord (Rat.divInt (-1) 2) (Rat.divInt (-1) 3) = -1 by decide +kernel] at e2
  rw [show ord (Rat.divInt fa (fa + 1)) (Rat.divInt (fa + 1) (fa + 2)) = -1 by decide +kernel] at e3
  rw [← l54, ← l43] at e1
  rw [← lm12, ← lm13] at e2
  rw [← lf1, ← lf2] at e3
  change evS _ _ (CS.own _ _) _ = _
  simp [e1, e2, e3]
theorem lsAt_b {i : Nat} {v : IV} {s : S} {xs : List IV} (e : getS i s.r = some (.ol xs)) : lsAt (.brw i) v s = some xs := by
  unfold lsAt
  simp only
  rw [e]
theorem lsPut_b {i : Nat} {v : IV} {s : S} {xs ys : List IV} (e : getS i s.r = some (.ol xs)) : lsPut (.brw i) v ys s = ⟨s.r.set i (some (.ol ys)), s.h⟩ := by
  unfold lsPut
  simp only
  rw [e]
theorem brw_b {i : Nat} {s : S} {xs : List IV} (e : getS i s.r = some (.ol xs)) : brwV i s = some (.lst xs) := by
  unfold brwV
  rw [e]
theorem ls3 {b0 b1 b2 : Option SV} : evS (cl8 F n) F (nth d_38.body 3) (St6 b0 b1 b2 none (vv (.int 100000000000000000000000000000)) (some (.ol [.int (-1), .int (-1), .int (-1)])) h) = .ok .nx (St6 b0 b1 b2 none (vv (.int 100000000000000000000000000000)) (some (.ol [.int (-1), .int (-1), .int (-1), .int 1])) h) := by
  have e1 := r_compared (F := F) (n := n + 1) (h := h) (shD 0 (by decide +kernel)) (shD (Rat.divInt (-1) fa) (by decide +kernel))
  rw [show ord 0 (Rat.divInt (-1) fa) = 1 by decide +kernel, ← l01, ← lf3] at e1
  change evS _ _ (CS.exp (.app (.brw 5) _)) _ = _
  have a1 : lsAt (.brw 5) .non (St6 b0 b1 b2 none (vv (.int 100000000000000000000000000000)) (some (.ol [.int (-1), .int (-1), .int (-1)])) h) = some [.int (-1), .int (-1), .int (-1)] := lsAt_b rfl
  have a2 := lsPut_b (i := 5) (v := .non) (s := St6 b0 b1 b2 none (vv (.int 100000000000000000000000000000)) (some (.ol [.int (-1), .int (-1), .int (-1)])) h) (ys := [.int (-1), .int (-1), .int (-1), .int 1]) rfl
  have a3 : 3 < sizeLine := by decide
  simp [e1, a1, a2, a3]
theorem ls4 {b0 b1 b2 : Option SV} : evS (cl8 F n) F (nth d_38.body 4) (St6 b0 b1 b2 none (vv (.int 100000000000000000000000000000)) (some (.ol [.int (-1), .int (-1), .int (-1), .int 1])) h) = .ok .nx (St6 b0 b1 b2 none (vv (.int 100000000000000000000000000000)) (some (.ol [.int (-1), .int (-1), .int (-1), .int 1])) h) := by
  have e1 := r_least (F := F) (n := n + 1) (h := h) (q0 := Rat.divInt (fa + 1) (fa + 2)) (qs := [Rat.divInt fa (fa + 1)]) (fun x hx => by
    simp at hx
    rcases hx with rfl | rfl
    · exact ⟨by unfold B; decide +kernel, by unfold B; decide +kernel⟩
    · exact ⟨by unfold B; decide +kernel, by unfold B; decide +kernel⟩)
  rw [show lowest (Rat.divInt (fa + 1) (fa + 2)) [Rat.divInt (fa + 1) (fa + 2), Rat.divInt fa (fa + 1)] = Rat.divInt fa (fa + 1) by decide +kernel] at e1
  simp only [List.map_cons, List.map_nil] at e1
  rw [← lf1, ← lf2] at e1
  have a1 : brwV 5 (St6 b0 b1 b2 none (vv (.int 100000000000000000000000000000)) (some (.ol [.int (-1), .int (-1), .int (-1), .int 1])) h) = some (.lst [.int (-1), .int (-1), .int (-1), .int 1]) := brw_b rfl
  have a2 : iEq (.lst [.int (-1), .int (-1), .int (-1), .int 1]) (.lst [.int (-1), .int (-1), .int (-1), .int 1]) = some true := rfl
  have a3 : iEq (.tup [.int 100000000000000000000000000000, .int 100000000000000000000000000001]) (.tup [.int 100000000000000000000000000000, .int 100000000000000000000000000001]) = some true := rfl
  change evS _ _ (CS.ife _ _ _) _ = _
  simp [e1, a1, a2, a3]
theorem ls5 {b0 b1 b2 b5 : Option SV} : evS (cl8 F n) F (nth d_38.body 5) (St6 b0 b1 b2 none (vv (.int 100000000000000000000000000000)) b5 h) = .ok (.rt (.bl true)) (St6 b0 b1 b2 none (vv (.int 100000000000000000000000000000)) b5 h) := by
  have e1 := r_fraction (F := F) (n := n + 4) (h := h) (a := 6) (b := -4) (by decide +kernel) (by decide +kernel) (by decide +kernel) (by decide +kernel) (by decide)
  have e2 := r_fraction (F := F) (n := n + 4) (h := h) (a := 0) (b := -7) (by decide +kernel) (by decide +kernel) (by decide +kernel) (by decide +kernel) (by decide)
  have e3 := r_added (F := F) (n := n + 1) (h := h) (shD (Rat.divInt 1 2) (by decide +kernel)) (shD (Rat.divInt 1 3) (by decide +kernel))
  have e4 := r_less (F := F) (n := n + 1) (h := h) (shD (Rat.divInt 1 3) (by decide +kernel)) (shD (Rat.divInt 1 2) (by decide +kernel))
  rw [← l12, ← l13] at e3 e4
  have f1 : fr (Rat.divInt 6 (-4)) = .tup [.int (-3), .int 2] := fr_val (by decide +kernel) (by decide +kernel)
  have f2 : fr (Rat.divInt 0 (-7)) = .tup [.int 0, .int 1] := fr_val (by decide +kernel) (by decide +kernel)
  have f3 : fr (Rat.divInt 1 2 + Rat.divInt 1 3) = .tup [.int 5, .int 6] := fr_val (by decide +kernel) (by decide +kernel)
  have f4 : fr (Rat.divInt 1 3 - Rat.divInt 1 2) = .tup [.int (-1), .int 6] := fr_val (by decide +kernel) (by decide +kernel)
  rw [f1] at e1
  rw [f2] at e2
  rw [f3] at e3
  rw [f4] at e4
  have a2 : iEq (.lst [.tup [.int (-3), .int 2], .tup [.int 0, .int 1], .tup [.int 5, .int 6], .tup [.int (-1), .int 6]]) (.lst [.tup [.int (-3), .int 2], .tup [.int 0, .int 1], .tup [.int 5, .int 6], .tup [.int (-1), .int 6]]) = some true := rfl
  change evS _ _ (CS.ret _) _ = _
  simp [e1, e2, e3, e4, a2]
theorem r_law (hF : Big F) (ns : List Int) : ∃ h', runF pg F (n + 8) 38 [.scr (ns.map IV.int)] h = .ok (.bl true) h' := by
  obtain ⟨h', b1, b2, e0⟩ := ls0 (n := n) (h := h) hF (ns := ns)
  refine ⟨h', ?_⟩
  rw [run_step (n := n + 7)]
  show toRc (evSs (cl8 F n) F d_38.body (St6 (vv (.scr (ns.map IV.int))) none none none none none h)) = _
  have run := chain (l := d_38.body) (t := dropS d_38.body 1) (a := nth d_38.body 0) rfl e0 (chain (t := dropS d_38.body 2) (a := nth d_38.body 1) rfl ls1 (chain (t := dropS d_38.body 3) (a := nth d_38.body 2) rfl ls2 (chain (t := dropS d_38.body 4) (a := nth d_38.body 3) rfl ls3
    (chain (t := dropS d_38.body 5) (a := nth d_38.body 4) rfl ls4 (chain_rt (a := nth d_38.body 5) (t := .nil) rfl ls5)))))
  exact congrArg toRc run
end
theorem law : ∀ ns : List Int, ns.length ≤ 63 → ∃ F st, runF pg F (deep + 1) 38 [.scr (ns.map IV.int)] [] = .ok (.bl true) st := fun ns _ => by
  obtain ⟨h', e⟩ := r_law (F := 2 ^ 8500) (n := 23) (h := []) (Nat.le_refl _) ns
  exact ⟨2 ^ 8500, h', e⟩
end Lk

open PySem PySem.W PyProof.Rows
set_option maxRecDepth 100000 in
set_option maxHeartbeats 0 in
theorem PySem.Challenge.cw_bestchance_k01_whole_fractions_holds : PySem.Challenge.rw_bestchance_k01_whole_fractions.Holds := by
  w_on; o_law; k_head; (case hw => w_witness2)
  k_fill
  refine Mi.walkG (l := PySem.Challenge.rw_bestchance_k01_whole_fractions) (n := 63) (k := Lk.deep + 1) rfl (by decide) rfl ⟨rfl, by decide, by decide⟩ (fun w h Y => PySem.W.kIn_of Y) ?F
  case F =>
    intro w mg fa h KX NS XX hmg
    obtain ⟨u_0, e_0, r_0⟩ := Mi.loose_int (x := ("FAR" : Str)) (i := 1000000000000000000000000000000000000000000000000000000000000) XX.2 (by simp)
    refine Mi.law_end (gt := Lk.gt) (pg := Lk.pg) (nm := "law") (i := 38) (k := Lk.deep) (n := 63) Lk.gx0 hmg rfl rfl ?fw ?bl ?gc ?vl Lk.law
    case fw =>
      refine' Mi.FWs.cons (x := ("is_whole" : Str)) (i := 0) (d := Lk.d_0) rfl (Mi.fw_mk (N := Lk.n_0) (ps := Lk.p_0) (st := Lk.top 9) KX NS ?a1 ?l1 ?c1 ?k1 Lk.s_0 (fun _ _ _ _ _ _ us hl => match us, hl with | [_], _ => rfl) rfl rfl Lk.c_0) ?t1
      (case a1 => k_is); (case l1 => k_is); (case c1 => k_is); (case k1 => k_is)
      refine' Mi.FWs.cons (x := ("is_short" : Str)) (i := 1) (d := Lk.d_1) rfl (Mi.fw_mk (N := Lk.n_1) (ps := Lk.p_1) (st := Lk.top 10) KX NS ?a2 ?l2 ?c2 ?k2 Lk.s_1 (fun _ _ _ _ _ _ us hl => match us, hl with | [_], _ => rfl) rfl rfl Lk.c_1) ?t2
      (case a2 => k_is); (case l2 => k_is); (case c2 => k_is); (case k2 => k_is)
      refine' Mi.FWs.cons (x := ("is_pair" : Str)) (i := 2) (d := Lk.d_2) rfl (Mi.fw_mk (N := Lk.n_2) (ps := Lk.p_2) (st := Lk.top 11) KX NS ?a3 ?l3 ?c3 ?k3 Lk.s_2 (fun _ _ _ _ _ _ us hl => match us, hl with | [_], _ => rfl) rfl rfl Lk.c_2) ?t3
      (case a3 => k_is); (case l3 => k_is); (case c3 => k_is); (case k3 => k_is)
      refine' Mi.FWs.cons (x := ("share" : Str)) (i := 3) (d := Lk.d_3) rfl (Mi.fw_mk (N := Lk.n_3) (ps := Lk.p_3) (st := Lk.top 14) KX NS ?a4 ?l4 ?c4 ?k4 Lk.s_3 (fun _ _ _ _ _ _ us hl => match us, hl with | [_, _], _ => rfl) rfl rfl Lk.c_3) ?t4
      (case a4 => k_is); (case l4 => k_is); (case c4 => k_is); (case k4 => k_is)
      refine' Mi.FWs.cons (x := ("plus" : Str)) (i := 4) (d := Lk.d_4) rfl (Mi.fw_mk (N := Lk.n_4) (ps := Lk.p_4) (st := Lk.top 15) KX NS ?a5 ?l5 ?c5 ?k5 Lk.s_4 (fun _ _ _ _ _ _ us hl => match us, hl with | [_, _], _ => rfl) rfl rfl Lk.c_4) ?t5
      (case a5 => k_is); (case l5 => k_is); (case c5 => k_is); (case k5 => k_is)
      refine' Mi.FWs.cons (x := ("minus" : Str)) (i := 5) (d := Lk.d_5) rfl (Mi.fw_mk (N := Lk.n_5) (ps := Lk.p_5) (st := Lk.top 16) KX NS ?a6 ?l6 ?c6 ?k6 Lk.s_5 (fun _ _ _ _ _ _ us hl => match us, hl with | [_, _], _ => rfl) rfl rfl Lk.c_5) ?t6
      (case a6 => k_is); (case l6 => k_is); (case c6 => k_is); (case k6 => k_is)
      refine' Mi.FWs.cons (x := ("times" : Str)) (i := 6) (d := Lk.d_6) rfl (Mi.fw_mk (N := Lk.n_6) (ps := Lk.p_6) (st := Lk.top 17) KX NS ?a7 ?l7 ?c7 ?k7 Lk.s_6 (fun _ _ _ _ _ _ us hl => match us, hl with | [_, _], _ => rfl) rfl rfl Lk.c_6) ?t7
      (case a7 => k_is); (case l7 => k_is); (case c7 => k_is); (case k7 => k_is)
      refine' Mi.FWs.cons (x := ("over" : Str)) (i := 7) (d := Lk.d_7) rfl (Mi.fw_mk (N := Lk.n_7) (ps := Lk.p_7) (st := Lk.top 18) KX NS ?a8 ?l8 ?c8 ?k8 Lk.s_7 (fun _ _ _ _ _ _ us hl => match us, hl with | [_, _], _ => rfl) rfl rfl Lk.c_7) ?t8
      (case a8 => k_is); (case l8 => k_is); (case c8 => k_is); (case k8 => k_is)
      refine' Mi.FWs.cons (x := ("is_less" : Str)) (i := 8) (d := Lk.d_8) rfl (Mi.fw_mk (N := Lk.n_8) (ps := Lk.p_8) (st := Lk.top 19) KX NS ?a9 ?l9 ?c9 ?k9 Lk.s_8 (fun _ _ _ _ _ _ us hl => match us, hl with | [_, _], _ => rfl) rfl rfl Lk.c_8) ?t9
      (case a9 => k_is); (case l9 => k_is); (case c9 => k_is); (case k9 => k_is)
      refine' Mi.FWs.cons (x := ("small" : Str)) (i := 9) (d := Lk.d_9) rfl (Mi.fw_mk (N := Lk.n_9) (ps := Lk.p_9) (st := Lk.top 20) KX NS ?a10 ?l10 ?c10 ?k10 Lk.s_9 (fun _ _ _ _ _ _ us hl => match us, hl with | [_, _], _ => rfl) rfl rfl Lk.c_9) ?t10
      (case a10 => k_is); (case l10 => k_is); (case c10 => k_is); (case k10 => k_is)
      refine' Mi.FWs.cons (x := ("total_of" : Str)) (i := 10) (d := Lk.d_10) rfl (Mi.fw_mk (N := Lk.n_10) (ps := Lk.p_10) (st := Lk.top 21) KX NS ?a11 ?l11 ?c11 ?k11 Lk.s_10 (fun _ _ _ _ _ _ us hl => match us, hl with | [_], _ => rfl) rfl rfl Lk.c_10) ?t11
      (case a11 => k_is); (case l11 => k_is); (case c11 => k_is); (case k11 => k_is)
      refine' Mi.FWs.cons (x := ("is_share" : Str)) (i := 11) (d := Lk.d_11) rfl (Mi.fw_mk (N := Lk.n_11) (ps := Lk.p_11) (st := Lk.top 22) KX NS ?a12 ?l12 ?c12 ?k12 Lk.s_11 (fun _ _ _ _ _ _ us hl => match us, hl with | [_], _ => rfl) rfl rfl Lk.c_11) ?t12
      (case a12 => k_is); (case l12 => k_is); (case c12 => k_is); (case k12 => k_is)
      refine' Mi.FWs.cons (x := ("is_short_share" : Str)) (i := 12) (d := Lk.d_12) rfl (Mi.fw_mk (N := Lk.n_12) (ps := Lk.p_12) (st := Lk.top 23) KX NS ?a13 ?l13 ?c13 ?k13 Lk.s_12 (fun _ _ _ _ _ _ us hl => match us, hl with | [_], _ => rfl) rfl rfl Lk.c_12) ?t13
      (case a13 => k_is); (case l13 => k_is); (case c13 => k_is); (case k13 => k_is)
      refine' Mi.FWs.cons (x := ("require_fraction" : Str)) (i := 13) (d := Lk.d_13) rfl (Mi.fw_mk (N := Lk.n_13) (ps := Lk.p_13) (st := Lk.top 26) KX NS ?a14 ?l14 ?c14 ?k14 Lk.s_13 (fun _ _ _ _ _ _ us hl => match us, hl with | [_], _ => rfl) rfl rfl Lk.c_13) ?t14
      (case a14 => k_is); (case l14 => k_is); (case c14 => k_is); (case k14 => k_is)
      refine' Mi.FWs.cons (x := ("require_two" : Str)) (i := 14) (d := Lk.d_14) rfl (Mi.fw_mk (N := Lk.n_14) (ps := Lk.p_14) (st := Lk.top 27) KX NS ?a15 ?l15 ?c15 ?k15 Lk.s_14 (fun _ _ _ _ _ _ us hl => match us, hl with | [_, _], _ => rfl) rfl rfl Lk.c_14) ?t15
      (case a15 => k_is); (case l15 => k_is); (case c15 => k_is); (case k15 => k_is)
      refine' Mi.FWs.cons (x := ("require_fractions" : Str)) (i := 15) (d := Lk.d_15) rfl (Mi.fw_mk (N := Lk.n_15) (ps := Lk.p_15) (st := Lk.top 28) KX NS ?a16 ?l16 ?c16 ?k16 Lk.s_15 (fun _ _ _ _ _ _ us hl => match us, hl with | [_], _ => rfl) rfl rfl Lk.c_15) ?t16
      (case a16 => k_is); (case l16 => k_is); (case c16 => k_is); (case k16 => k_is)
      refine' Mi.FWs.cons (x := ("is_fraction" : Str)) (i := 16) (d := Lk.d_16) rfl (Mi.fw_mk (N := Lk.n_16) (ps := Lk.p_16) (st := Lk.top 29) KX NS ?a17 ?l17 ?c17 ?k17 Lk.s_16 (fun _ _ _ _ _ _ us hl => match us, hl with | [_], _ => rfl) rfl rfl Lk.c_16) ?t17
      (case a17 => k_is); (case l17 => k_is); (case c17 => k_is); (case k17 => k_is)
      refine' Mi.FWs.cons (x := ("fraction" : Str)) (i := 17) (d := Lk.d_17) rfl (Mi.fw_mk (N := Lk.n_17) (ps := Lk.p_17) (st := Lk.top 30) KX NS ?a18 ?l18 ?c18 ?k18 Lk.s_17 (fun _ _ _ _ _ _ us hl => match us, hl with | [_, _], _ => rfl) rfl rfl Lk.c_17) ?t18
      (case a18 => k_is); (case l18 => k_is); (case c18 => k_is); (case k18 => k_is)
      refine' Mi.FWs.cons (x := ("added" : Str)) (i := 18) (d := Lk.d_18) rfl (Mi.fw_mk (N := Lk.n_18) (ps := Lk.p_18) (st := Lk.top 31) KX NS ?a19 ?l19 ?c19 ?k19 Lk.s_18 (fun _ _ _ _ _ _ us hl => match us, hl with | [_, _], _ => rfl) rfl rfl Lk.c_18) ?t19
      (case a19 => k_is); (case l19 => k_is); (case c19 => k_is); (case k19 => k_is)
      refine' Mi.FWs.cons (x := ("less" : Str)) (i := 19) (d := Lk.d_19) rfl (Mi.fw_mk (N := Lk.n_19) (ps := Lk.p_19) (st := Lk.top 32) KX NS ?a20 ?l20 ?c20 ?k20 Lk.s_19 (fun _ _ _ _ _ _ us hl => match us, hl with | [_, _], _ => rfl) rfl rfl Lk.c_19) ?t20
      (case a20 => k_is); (case l20 => k_is); (case c20 => k_is); (case k20 => k_is)
      refine' Mi.FWs.cons (x := ("multiplied" : Str)) (i := 20) (d := Lk.d_20) rfl (Mi.fw_mk (N := Lk.n_20) (ps := Lk.p_20) (st := Lk.top 33) KX NS ?a21 ?l21 ?c21 ?k21 Lk.s_20 (fun _ _ _ _ _ _ us hl => match us, hl with | [_, _], _ => rfl) rfl rfl Lk.c_20) ?t21
      (case a21 => k_is); (case l21 => k_is); (case c21 => k_is); (case k21 => k_is)
      refine' Mi.FWs.cons (x := ("divided" : Str)) (i := 21) (d := Lk.d_21) rfl (Mi.fw_mk (N := Lk.n_21) (ps := Lk.p_21) (st := Lk.top 34) KX NS ?a22 ?l22 ?c22 ?k22 Lk.s_21 (fun _ _ _ _ _ _ us hl => match us, hl with | [_, _], _ => rfl) rfl rfl Lk.c_21) ?t22
      (case a22 => k_is); (case l22 => k_is); (case c22 => k_is); (case k22 => k_is)
      refine' Mi.FWs.cons (x := ("compared" : Str)) (i := 22) (d := Lk.d_22) rfl (Mi.fw_mk (N := Lk.n_22) (ps := Lk.p_22) (st := Lk.top 35) KX NS ?a23 ?l23 ?c23 ?k23 Lk.s_22 (fun _ _ _ _ _ _ us hl => match us, hl with | [_, _], _ => rfl) rfl rfl Lk.c_22) ?t23
      (case a23 => k_is); (case l23 => k_is); (case c23 => k_is); (case k23 => k_is)
      refine' Mi.FWs.cons (x := ("least_of" : Str)) (i := 23) (d := Lk.d_23) rfl (Mi.fw_mk (N := Lk.n_23) (ps := Lk.p_23) (st := Lk.top 36) KX NS ?a24 ?l24 ?c24 ?k24 Lk.s_23 (fun _ _ _ _ _ _ us hl => match us, hl with | [_], _ => rfl) rfl rfl Lk.c_23) ?t24
      (case a24 => k_is); (case l24 => k_is); (case c24 => k_is); (case k24 => k_is)
      refine' Mi.FWs.cons (x := ("summed" : Str)) (i := 24) (d := Lk.d_24) rfl (Mi.fw_mk (N := Lk.n_24) (ps := Lk.p_24) (st := Lk.top 37) KX NS ?a25 ?l25 ?c25 ?k25 Lk.s_24 (fun _ _ _ _ _ _ us hl => match us, hl with | [_], _ => rfl) rfl rfl Lk.c_24) ?t25
      (case a25 => k_is); (case l25 => k_is); (case c25 => k_is); (case k25 => k_is)
      refine' Mi.FWs.cons (x := ("_law_bowl" : Str)) (i := 25) (d := Lk.d_25) rfl (Mi.fw_mk (N := Lk.n_25) (ps := Lk.p_25) (st := Lk.top 39) KX NS ?a26 ?l26 ?c26 ?k26 Lk.s_25 (fun _ _ _ _ _ _ us hl => match us, hl with | [_, _], _ => rfl) rfl rfl Lk.c_25) ?t26
      (case a26 => k_is); (case l26 => k_is); (case c26 => k_is); (case k26 => k_is)
      refine' Mi.FWs.cons (x := ("_law_scoop" : Str)) (i := 26) (d := Lk.d_26) rfl (Mi.fw_mk (N := Lk.n_26) (ps := Lk.p_26) (st := Lk.top 40) KX NS ?a27 ?l27 ?c27 ?k27 Lk.s_26 (fun _ _ _ _ _ _ us hl => match us, hl with | [_, _], _ => rfl) rfl rfl Lk.c_26) ?t27
      (case a27 => k_is); (case l27 => k_is); (case c27 => k_is); (case k27 => k_is)
      refine' Mi.FWs.cons (x := ("_law_one_of" : Str)) (i := 27) (d := Lk.d_27) rfl (Mi.fw_mk (N := Lk.n_27) (ps := Lk.p_27) (st := Lk.top 41) KX NS ?a28 ?l28 ?c28 ?k28 Lk.s_27 (fun _ _ _ _ _ _ us hl => match us, hl with | [_, _], _ => rfl) rfl rfl Lk.c_27) ?t28
      (case a28 => k_is); (case l28 => k_is); (case c28 => k_is); (case k28 => k_is)
      refine' Mi.FWs.cons (x := ("_law_common" : Str)) (i := 28) (d := Lk.d_28) rfl (Mi.fw_mk (N := Lk.n_28) (ps := Lk.p_28) (st := Lk.top 42) KX NS ?a29 ?l29 ?c29 ?k29 Lk.s_28 (fun _ _ _ _ _ _ us hl => match us, hl with | [_, _], _ => rfl) rfl rfl Lk.c_28) ?t29
      (case a29 => k_is); (case l29 => k_is); (case c29 => k_is); (case k29 => k_is)
      refine' Mi.FWs.cons (x := ("_law_share" : Str)) (i := 29) (d := Lk.d_29) rfl (Mi.fw_mk (N := Lk.n_29) (ps := Lk.p_29) (st := Lk.top 43) KX NS ?a30 ?l30 ?c30 ?k30 Lk.s_29 (fun _ _ _ _ _ _ us hl => match us, hl with | [_, _], _ => rfl) rfl rfl Lk.c_29) ?t30
      (case a30 => k_is); (case l30 => k_is); (case c30 => k_is); (case k30 => k_is)
      refine' Mi.FWs.cons (x := ("_law_plus" : Str)) (i := 30) (d := Lk.d_30) rfl (Mi.fw_mk (N := Lk.n_30) (ps := Lk.p_30) (st := Lk.top 44) KX NS ?a31 ?l31 ?c31 ?k31 Lk.s_30 (fun _ _ _ _ _ _ us hl => match us, hl with | [_, _], _ => rfl) rfl rfl Lk.c_30) ?t31
      (case a31 => k_is); (case l31 => k_is); (case c31 => k_is); (case k31 => k_is)
      refine' Mi.FWs.cons (x := ("_law_minus" : Str)) (i := 31) (d := Lk.d_31) rfl (Mi.fw_mk (N := Lk.n_31) (ps := Lk.p_31) (st := Lk.top 45) KX NS ?a32 ?l32 ?c32 ?k32 Lk.s_31 (fun _ _ _ _ _ _ us hl => match us, hl with | [_, _], _ => rfl) rfl rfl Lk.c_31) ?t32
      (case a32 => k_is); (case l32 => k_is); (case c32 => k_is); (case k32 => k_is)
      refine' Mi.FWs.cons (x := ("_law_times" : Str)) (i := 32) (d := Lk.d_32) rfl (Mi.fw_mk (N := Lk.n_32) (ps := Lk.p_32) (st := Lk.top 46) KX NS ?a33 ?l33 ?c33 ?k33 Lk.s_32 (fun _ _ _ _ _ _ us hl => match us, hl with | [_, _], _ => rfl) rfl rfl Lk.c_32) ?t33
      (case a33 => k_is); (case l33 => k_is); (case c33 => k_is); (case k33 => k_is)
      refine' Mi.FWs.cons (x := ("_law_less" : Str)) (i := 33) (d := Lk.d_33) rfl (Mi.fw_mk (N := Lk.n_33) (ps := Lk.p_33) (st := Lk.top 47) KX NS ?a34 ?l34 ?c34 ?k34 Lk.s_33 (fun _ _ _ _ _ _ us hl => match us, hl with | [_, _], _ => rfl) rfl rfl Lk.c_33) ?t34
      (case a34 => k_is); (case l34 => k_is); (case c34 => k_is); (case k34 => k_is)
      refine' Mi.FWs.cons (x := ("_law_is_fraction" : Str)) (i := 34) (d := Lk.d_34) rfl (Mi.fw_mk (N := Lk.n_34) (ps := Lk.p_34) (st := Lk.top 48) KX NS ?a35 ?l35 ?c35 ?k35 Lk.s_34 (fun _ _ _ _ _ _ us hl => match us, hl with | [_], _ => rfl) rfl rfl Lk.c_34) ?t35
      (case a35 => k_is); (case l35 => k_is); (case c35 => k_is); (case k35 => k_is)
      refine' Mi.FWs.cons (x := ("_law_drawn" : Str)) (i := 35) (d := Lk.d_35) rfl (Mi.fw_mk (N := Lk.n_35) (ps := Lk.p_35) (st := Lk.top 49) KX NS ?a36 ?l36 ?c36 ?k36 Lk.s_35 (fun _ _ _ _ _ _ us hl => match us, hl with | [_], _ => rfl) rfl rfl Lk.c_35) ?t36
      (case a36 => k_is); (case l36 => k_is); (case c36 => k_is); (case k36 => k_is)
      refine' Mi.FWs.cons (x := ("_law_order" : Str)) (i := 36) (d := Lk.d_36) rfl (Mi.fw_mk (N := Lk.n_36) (ps := Lk.p_36) (st := Lk.top 50) KX NS ?a37 ?l37 ?c37 ?k37 Lk.s_36 (fun _ _ _ _ _ _ us hl => match us, hl with | [_, _], _ => rfl) rfl rfl Lk.c_36) ?t37
      (case a37 => k_is); (case l37 => k_is); (case c37 => k_is); (case k37 => k_is)
      refine' Mi.FWs.cons (x := ("_law_right" : Str)) (i := 37) (d := Lk.d_37) rfl (Mi.fw_mk (N := Lk.n_37) (ps := Lk.p_37) (st := Lk.top 51) KX NS ?a38 ?l38 ?c38 ?k38 Lk.s_37 (fun _ _ _ _ _ _ us hl => match us, hl with | [_], _ => rfl) rfl rfl Lk.c_37) ?t38
      (case a38 => k_is); (case l38 => k_is); (case c38 => k_is); (case k38 => k_is)
      refine' Mi.FWs.cons (x := ("law" : Str)) (i := 38) (d := Lk.d_38) rfl (Mi.fw_mk (N := Lk.n_38) (ps := Lk.p_38) (st := Lk.top 52) KX NS ?a39 ?l39 ?c39 ?k39 Lk.s_38 (fun _ _ _ _ _ _ us hl => match us, hl with | [_], _ => rfl) rfl rfl Lk.c_38) ?t39
      (case a39 => k_is); (case l39 => k_is); (case c39 => k_is); (case k39 => k_is)
      exact .nil
    case bl =>
      refine' .cons (x := ("abs" : Str)) (PySem.W.mg_none_of KX NS ?z40) ?t40; (case z40 => k_is)
      refine' .cons (x := ("bool" : Str)) (PySem.W.mg_none_of KX NS ?z41) ?t41; (case z41 => k_is)
      refine' .gcd ?t42
      refine' .cons (x := ("int" : Str)) (PySem.W.mg_none_of KX NS ?z43) ?t43; (case z43 => k_is)
      refine' .cons (x := ("isinstance" : Str)) (PySem.W.mg_none_of KX NS ?z44) ?t44; (case z44 => k_is)
      refine' .cons (x := ("len" : Str)) (PySem.W.mg_none_of KX NS ?z45) ?t45; (case z45 => k_is)
      refine' .cons (x := ("list" : Str)) (PySem.W.mg_none_of KX NS ?z46) ?t46; (case z46 => k_is)
      refine' .cons (x := ("max" : Str)) (PySem.W.mg_none_of KX NS ?z47) ?t47; (case z47 => k_is)
      refine' .cons (x := ("min" : Str)) (PySem.W.mg_none_of KX NS ?z48) ?t48; (case z48 => k_is)
      refine' .cons (x := ("range" : Str)) (PySem.W.mg_none_of KX NS ?z49) ?t49; (case z49 => k_is)
      refine' .cons (x := ("repr" : Str)) (PySem.W.mg_none_of KX NS ?z50) ?t50; (case z50 => k_is)
      refine' .cons (x := ("str" : Str)) (PySem.W.mg_none_of KX NS ?z51) ?t51; (case z51 => k_is)
      refine' .cons (x := ("sum" : Str)) (PySem.W.mg_none_of KX NS ?z52) ?t52; (case z52 => k_is)
      refine' .cons (x := ("tuple" : Str)) (PySem.W.mg_none_of KX NS ?z53) ?t53; (case z53 => k_is)
      exact .nil
    case gc =>
      intro _
      refine' PySem.W.mg_of KX NS ?z; (case z => k_is)
    case vl =>
      refine' .cons (x := ("FAR" : Str)) (v := (.int 1000000000000000000000000000000000000000000000000000000000000)) e_0 (r_0 _) ?t54
      refine' .cons (x := ("PAIR_SIZE" : Str)) (v := (.int 2)) (PySem.W.mg_of KX NS ?z55) ?h55 ?t55; (case z55 => k_is)
      (case h55 => (exact .int))
      refine' .cons (x := ("ZERO" : Str)) (v := (.tup [(.int 0), (.int 1)])) (PySem.W.mg_of KX NS ?z59) ?h59 ?t59; (case z59 => k_is)
      (case h59 => (refine' .tup ?l56 ?m56 ?r56; (case l56 => k_is); (case m56 => exact (by decide)); refine' .cons ?h57 ?t57; (case h57 => (exact .int)); refine' .cons ?h58 ?t58; (case h58 => (exact .int)); exact .nil))
      exact .nil
