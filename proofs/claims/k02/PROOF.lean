import PyProof.Rows.All
import Wide.All
import OpenK.AllK
import Wide.FinOn
import HandS.ForMost
import HandS.ForExc
import KE.KSuper
import KE.KExcSuper
import HandS.ExcInit
import HandS.Nested
import HandS.TryMany
import HandS.ExcField
import HandS.ExcIs
import HandS.IsInst
import HandS.TupAny
import HandS.Star
import HandS.Property
import HandS.CallSlots
import HandS.SlotsOwn
import HandS.Zip
import HandS.Style
import HandS.More
import HandS.Small
import HandS.Dict
import PyProof.RowDictHeap
import PyProof.InstNe
import HandS.Text
import HandS.Call
import HandS.RaiseMore
import HandS.Defaults
import HandS.Ends
import HandS.HeadEnd
import HandS.Words
import HandS.WordsExc
import HandS.Codes
import HandS.Head0
import HandS.Head1
import HandS.Head2
import HandS.HeadHook1
import HandS.HeadHook2
import HandS.HeadHook3
import HandS.HeadHook4
import PySem.Challenge.RW_sparedlines_k02_what_is_no_build
section
set_option autoImplicit false
set_option linter.all false
/-! A small deterministic semantics of the part of Python that these programs use: values, a local heap, combinators. Plain Lean. -/
namespace IR

abbrev Txt := List Nat
/-- the largest size that is served -/
abbrev LIM : Nat := 16777216

inductive D where
  | non
  | bl (b : Bool)
  | int (i : Int)
  | str (s : Txt)
  | tup (ds : List D)
  /-- a list that is only read (the script) -/
  | frz (ds : List D)
  | ref (k : Nat)

mutual
def D.beq : D → D → Bool
  | .non, .non => true
  | .bl a, .bl b => a == b
  | .int a, .int b => a == b
  | .str a, .str b => a == b
  | .tup a, .tup b => D.beqs a b
  | .frz a, .frz b => D.beqs a b
  | .ref a, .ref b => a == b
  | _, _ => false
def D.beqs : List D → List D → Bool
  | [], [] => true
  | a :: as, b :: bs => D.beq a b && D.beqs as bs
  | _, _ => false
end
mutual
theorem D.beq_refl : ∀ d : D, D.beq d d = true
  | .non => rfl
  | .bl b => by simp [D.beq]
  | .int b => by simp [D.beq]
  | .str b => by simp [D.beq]
  | .tup ds => by simp [D.beq, D.beqs_refl ds]
  | .frz ds => by simp [D.beq, D.beqs_refl ds]
  | .ref k => by simp [D.beq]
theorem D.beqs_refl : ∀ ds : List D, D.beqs ds ds = true
  | [] => rfl
  | d :: ds => by simp [D.beqs, D.beq_refl d, D.beqs_refl ds]
end
mutual
theorem D.eq_of_beq : ∀ a b : D, D.beq a b = true → a = b
  | .non, b, h => by cases b <;> simp_all [D.beq]
  | .bl x, b, h => by cases b <;> simp_all [D.beq]
  | .int x, b, h => by cases b <;> simp_all [D.beq]
  | .str x, b, h => by cases b <;> simp_all [D.beq]
  | .tup x, b, h => by
    cases b with
    | tup y => rw [D.eqs_of_beqs x y (by simpa [D.beq] using h)]
    | _ => simp [D.beq] at h
  | .frz x, b, h => by
    cases b with
    | frz y => rw [D.eqs_of_beqs x y (by simpa [D.beq] using h)]
    | _ => simp [D.beq] at h
  | .ref x, b, h => by cases b <;> simp_all [D.beq]
theorem D.eqs_of_beqs : ∀ a b : List D, D.beqs a b = true → a = b
  | [], b, h => by cases b <;> simp_all [D.beqs]
  | x :: xs, b, h => by
    cases b with
    | nil => simp [D.beqs] at h
    | cons y ys =>
      simp only [D.beqs, Bool.and_eq_true] at h
      rw [D.eq_of_beq x y h.1, D.eqs_of_beqs xs ys h.2]
end
instance : BEq D := ⟨D.beq⟩
instance : LawfulBEq D where
  eq_of_beq := fun {a b} h => D.eq_of_beq a b h
  rfl := fun {a} => D.beq_refl a
instance : DecidableEq D := fun a b => if h : D.beq a b = true then isTrue (D.eq_of_beq a b h) else isFalse (fun e => h (by rw [e]; exact D.beq_refl b))

mutual
/-- no reference in it -/
def D.pure : D → Bool
  | .tup ds => D.pures ds
  | .frz ds => D.pures ds
  | .ref _ => false
  | _ => true
def D.pures : List D → Bool
  | [] => true
  | d :: ds => D.pure d && D.pures ds
end

/-- a key of a dict: an int, a text -/
inductive KY where
  | i (n : Int)
  | s (t : Txt)
  deriving DecidableEq
/-- an object: a list, a dict, an instance of the class c -/
inductive LO where
  | lst (ds : List D)
  | dic (kvs : List (KY × D))
  | ins (c : Nat) (fs : List (String × D))
  /-- an error that is held: its class, its value -/
  | err (c : Nat) (v : D)
  deriving DecidableEq

def LO.pure : LO → Bool
  | .lst ds => D.pures ds
  | .dic kvs => kvs.all fun p => p.2.pure
  | .ins _ fs => fs.all fun p => p.2.pure
  | .err _ v => v.pure

abbrev Heap := List LO

inductive Res (α : Type) where
  | ok (a : α) (h : Heap)
  | exc (c : Nat) (v : D) (h : Heap)
  | bad

def Res.bind {α β : Type} (r : Res α) (f : α → Heap → Res β) : Res β :=
  match r with
  | .ok a h => f a h
  | .exc c v h => .exc c v h
  | .bad => .bad
@[simp] theorem Res.bind_ok {α β : Type} (a : α) (h : Heap) (f : α → Heap → Res β) : (Res.ok a h).bind f = f a h := rfl
@[simp] theorem Res.bind_bad {α β : Type} (f : α → Heap → Res β) : (Res.bad : Res α).bind f = .bad := rfl
@[simp] theorem Res.bind_exc {α β : Type} (c : Nat) (v : D) (h : Heap) (f : α → Heap → Res β) : (Res.exc c v h : Res α).bind f = .exc c v h := rfl

theorem Res.bind_assoc {α β γ : Type} (r : Res α) (f : α → Heap → Res β) (g : β → Heap → Res γ) : (r.bind f).bind g = r.bind fun a h => (f a h).bind g := by cases r <;> rfl
/-! ### what is left behind: new objects that nobody knows go -/
def agree : Heap → Heap → Bool
  | [], _ => true
  | a :: as, b :: bs => (b.pure || decide (a = b)) && agree as bs
  | _ :: _, [] => false
def gc (h : Heap) : Res D → Res D
  | .ok v h' =>
    if agree h h' then
      if v.pure then .ok v (h'.take h.length)
      else match v with
        | .ref r =>
          if h.length ≤ r then
            match h'[r]? with
            | some o => if o.pure then .ok (.ref h.length) (h'.take h.length ++ [o]) else .ok v h'
            | none => .ok v h'
          else .ok v (h'.take h.length)
        | _ => .ok v h'
    else .ok v h'
  | .exc c v h' => .exc c v h'
  | .bad => .bad
def gcB (h : Heap) : Res Bool → Res Bool
  | .ok v h' => if agree h h' then .ok v (h'.take h.length) else .ok v h'
  | .exc c v h' => .exc c v h'
  | .bad => .bad

theorem agree_app (h g : Heap) : agree h (h ++ g) = true := by
  induction h with
  | nil => rfl
  | cons a as ih => simp [agree, ih]
theorem agree_self (h : Heap) : agree h h = true := by simpa using agree_app h []
theorem agree_set (h g : Heap) (p : Nat) (o : LO) (ho : o.pure = true) : agree h (h.set p o ++ g) = true := by
  induction h generalizing p with
  | nil => rfl
  | cons a as ih =>
    cases p with
    | zero => simp [agree, ho, agree_app]
    | succ p => simp [agree, ih]
@[simp] theorem gc_exc (h : Heap) (c : Nat) (v : D) (h' : Heap) : gc h (.exc c v h') = .exc c v h' := rfl
@[simp] theorem gc_bad (h : Heap) : gc h .bad = .bad := rfl
theorem gc_app {h g : Heap} {v : D} (hv : v.pure = true) : gc h (.ok v (h ++ g)) = .ok v h := by
  simp [gc, agree_app, hv]
theorem gc_self {h : Heap} {v : D} (hv : v.pure = true) : gc h (.ok v h) = .ok v h := by
  simp [gc, agree_self, hv]
theorem gc_old {h : Heap} {r : Nat} (hr : r < h.length) : gc h (.ok (.ref r) h) = .ok (.ref r) h := by
  have : ¬ h.length ≤ r := by omega
  simp [gc, agree_self, D.pure, this]
theorem gc_old_app {h g : Heap} {r : Nat} (hr : r < h.length) : gc h (.ok (.ref r) (h ++ g)) = .ok (.ref r) h := by
  have : ¬ h.length ≤ r := by omega
  simp [gc, agree_app, D.pure, this]
theorem gc_new {h g : Heap} {o : LO} {r : Nat} (hr : (h ++ g)[r]? = some o) (hl : h.length ≤ r) (ho : o.pure = true) : gc h (.ok (.ref r) (h ++ g)) = .ok (.ref h.length) (h ++ [o]) := by
  simp [gc, agree_app, D.pure, hl, hr, ho]
theorem gc_set {h g : Heap} {v : D} {p : Nat} {o : LO} (hv : v.pure = true) (ho : o.pure = true) : gc h (.ok v (h.set p o ++ g)) = .ok v (h.set p o) := by
  simp [gc, agree_set, hv, ho]

/-! ### slots, expressions -/
abbrev Env := List (Option D)
abbrev SE := Env → Heap → Res D
abbrev ST := Env → Heap → Res Bool
abbrev SA := Env → Heap → Res (List D)

/-- deep data: what == and repr see -/
inductive PD where
  | none
  | bool (b : Bool)
  | int (i : Int)
  | str (s : Txt)
  | list (xs : List PD)
  | tuple (xs : List PD)

mutual
def PD.eqv : PD → PD → Bool
  | .none, .none => true
  | .bool a, .bool b => a == b
  | .bool a, .int j => (if a then 1 else 0) == j
  | .int i, .bool b => i == (if b then 1 else 0)
  | .int i, .int j => i == j
  | .str x, .str y => x == y
  | .list xs, .list ys => PD.eqvs xs ys
  | .tuple xs, .tuple ys => PD.eqvs xs ys
  | _, _ => false
def PD.eqvs : List PD → List PD → Bool
  | [], [] => true
  | x :: xs, y :: ys => PD.eqv x y && PD.eqvs xs ys
  | _, _ => false
end
mutual
theorem PD.eqv_refl : ∀ d : PD, PD.eqv d d = true
  | .none => rfl
  | .bool b => by simp [PD.eqv]
  | .int i => by simp [PD.eqv]
  | .str s => by simp [PD.eqv]
  | .list xs => by simp [PD.eqv, PD.eqvs_refl xs]
  | .tuple xs => by simp [PD.eqv, PD.eqvs_refl xs]
theorem PD.eqvs_refl : ∀ ds : List PD, PD.eqvs ds ds = true
  | [] => rfl
  | d :: ds => by simp [PD.eqvs, PD.eqv_refl d, PD.eqvs_refl ds]
end
mutual
/-- how much there is -/
def PD.wt : PD → Nat
  | .none => 0
  | .bool _ => 0
  | .int i => if i = 0 then 0 else i.natAbs.log2 + 1
  | .str s => s.length
  | .list xs => PD.wts xs
  | .tuple xs => PD.wts xs
def PD.wts : List PD → Nat
  | [] => 0
  | d :: ds => PD.wt d + 1 + PD.wts ds
end
mutual
/-- ints that can be written out -/
def PD.small : PD → Bool
  | .int i => decide (i.natAbs.log2 < 1920)
  | .list xs => PD.smalls xs
  | .tuple xs => PD.smalls xs
  | _ => true
def PD.smalls : List PD → Bool
  | [] => true
  | d :: ds => PD.small d && PD.smalls ds
end
mutual
/-- ints of at most ten figures -/
def PD.tiny : PD → Bool
  | .int i => decide (i.natAbs < 10000000000)
  | .list xs => PD.tinys xs
  | .tuple xs => PD.tinys xs
  | _ => true
def PD.tinys : List PD → Bool
  | [] => true
  | d :: ds => PD.tiny d && PD.tinys ds
end
/-- it can be written out -/
def PD.fits (p : PD) : Bool := (p.tiny && decide (p.wt ≤ 1048576)) || (p.small && decide (p.wt ≤ 8000))
def mapO {α β : Type} (f : α → Option β) : List α → Option (List β)
  | [] => some []
  | a :: as => match f a, mapO f as with
    | some b, some bs => some (b :: bs)
    | _, _ => none
/-- what a value is as data, at most so deep -/
def rd (h : Heap) : Nat → D → Option PD
  | 0, _ => none
  | n + 1, d => match d with
    | .non => some .none
    | .bl b => some (.bool b)
    | .int i => some (.int i)
    | .str s => some (.str s)
    | .tup ds => (mapO (rd h n) ds).map .tuple
    | .frz ds => (mapO (rd h n) ds).map .list
    | .ref k => match h[k]? with
      | some (.lst ds) => (mapO (rd h n) ds).map .list
      | _ => none
abbrev DEEP : Nat := 60
/-! what repr sees: data, dicts too -/
inductive PX where
  | none
  | bool (b : Bool)
  | int (i : Int)
  | str (s : Txt)
  | list (xs : List PX)
  | tuple (xs : List PX)
  | dict (kvs : List (KY × PX))
mutual
def PX.wt : PX → Nat
  | .none => 0
  | .bool _ => 0
  | .int i => if i = 0 then 0 else i.natAbs.log2 + 1
  | .str s => s.length
  | .list xs => PX.wts xs
  | .tuple xs => PX.wts xs
  | .dict kvs => PX.wtk kvs
def PX.wts : List PX → Nat
  | [] => 0
  | d :: ds => PX.wt d + 1 + PX.wts ds
def PX.wtk : List (KY × PX) → Nat
  | [] => 0
  | (k, v) :: r => (match k with | .i n => PX.wt (.int n) | .s t => t.length) + PX.wt v + 2 + PX.wtk r
end
mutual
/-- ints of less than so many bits -/
def PX.upto (B : Nat) : PX → Bool
  | .int i => decide (i.natAbs < B)
  | .list xs => PX.uptos B xs
  | .tuple xs => PX.uptos B xs
  | .dict kvs => PX.uptok B kvs
  | _ => true
def PX.uptos (B : Nat) : List PX → Bool
  | [] => true
  | d :: ds => PX.upto B d && PX.uptos B ds
def PX.uptok (B : Nat) : List (KY × PX) → Bool
  | [] => true
  | (k, v) :: r => (match k with | .i n => decide (n.natAbs < B) | .s _ => true) && PX.upto B v && PX.uptok B r
end
/-- it can be written out -/
def PX.fits (p : PX) : Bool := (p.upto (10 ^ 10) && decide (p.wt ≤ 1048576)) || (p.upto (10 ^ 500) && decide (p.wt ≤ 8000))
def rdX (h : Heap) : Nat → D → Option PX
  | 0, _ => none
  | n + 1, d => match d with
    | .non => some .none
    | .bl b => some (.bool b)
    | .int i => some (.int i)
    | .str s => some (.str s)
    | .tup ds => (mapO (rdX h n) ds).map .tuple
    | .frz ds => (mapO (rdX h n) ds).map .list
    | .ref k => match h[k]? with
      | some (.lst ds) => (mapO (rdX h n) ds).map .list
      | some (.dic kvs) => (mapO (rdX h n) (kvs.map (·.2))).map fun ps => .dict ((kvs.map (·.1)).zip ps)
      | _ => none

/-- the calls: of a def by its number; of an __init__ (one level below); how data is written out -/
structure Kap where
  fn : Nat → List D → Heap → Res D
  ini : Nat → List D → Heap → Res D
  low : Nat → List D → Heap → Res D
  shown : PX → Txt

def liftO {α : Type} (o : Option α) (h : Heap) : Res α := match o with | some a => .ok a h | none => .bad

def e_c (d : D) : SE := fun _ h => .ok d h
def e_var (i : Nat) : SE := fun σ h => match σ[i]? with | some (some d) => .ok d h | _ => .bad
def e_1 (op : D → Heap → Res D) (a : SE) : SE := fun σ h => (a σ h).bind fun x h1 => op x h1
def e_2 (op : D → D → Heap → Res D) (a b : SE) : SE := fun σ h => (a σ h).bind fun x h1 => (b σ h1).bind fun y h2 => op x y h2
def e_3 (op : D → D → D → Heap → Res D) (a b c : SE) : SE := fun σ h => (a σ h).bind fun x h1 => (b σ h1).bind fun y h2 => (c σ h2).bind fun z h3 => op x y z h3
def a_nil : SA := fun _ h => .ok [] h
def a_cons (a : SE) (b : SA) : SA := fun σ h => (a σ h).bind fun x h1 => (b σ h1).bind fun xs h2 => .ok (x :: xs) h2
/-- *e in a display: a list or a tuple -/
def items (h : Heap) : D → Option (List D)
  | .tup ds => some ds
  | .frz ds => some ds
  | .ref k => match h[k]? with
    | some (.lst ds) => some ds
    | _ => none
  | _ => none
def a_star (a : SE) (b : SA) : SA := fun σ h => (a σ h).bind fun x h1 => (liftO (items h1 x) h1).bind fun ds h1 => (b σ h1).bind fun xs h2 => .ok (ds ++ xs) h2
def e_tup (a : SA) : SE := fun σ h => (a σ h).bind fun xs h1 => if xs.length ≤ LIM then .ok (.tup xs) h1 else .bad
def newO (o : LO) (h : Heap) : Res D := .ok (.ref h.length) (h ++ [o])
def e_lst (a : SA) : SE := fun σ h => (a σ h).bind fun xs h1 => if xs.length ≤ LIM then newO (.lst xs) h1 else .bad
/-- a call of something with its arguments -/
def e_call (f : List D → Heap → Res D) (a : SA) : SE := fun σ h => (a σ h).bind fun xs h1 => f xs h1

/-! ### tests -/
/-- a value's truth (no own class) -/
def truth (h : Heap) : D → Option Bool
  | .non => some false
  | .bl b => some b
  | .int i => some (i != 0)
  | .str s => if s.length ≤ LIM then some (!s.isEmpty) else none
  | .tup ds => some (!ds.isEmpty)
  | .frz ds => some (!ds.isEmpty)
  | .ref k => match h[k]? with
    | some (.lst ds) => some (!ds.isEmpty)
    | _ => none
def asB : D → Option Bool
  | .bl b => some b
  | _ => none
def t_b (e : SE) : ST := fun σ h => (e σ h).bind fun x h1 => liftO (asB x) h1
def t_e (e : SE) : ST := fun σ h => (e σ h).bind fun x h1 => liftO (truth h1 x) h1
def t_not (t : ST) : ST := fun σ h => (t σ h).bind fun b h1 => .ok (!b) h1
def t_and (t u : ST) : ST := fun σ h => (t σ h).bind fun b h1 => if b then u σ h1 else .ok false h1
def t_or (t u : ST) : ST := fun σ h => (t σ h).bind fun b h1 => if b then .ok true h1 else u σ h1
def t_yes : ST := fun _ h => .ok true h
/-- a test's answer as a value -/
def e_t (t : ST) : SE := fun σ h => (t σ h).bind fun b h1 => .ok (.bl b) h1
def e_if (t : ST) (a b : SE) : SE := fun σ h => (t σ h).bind fun k h1 => if k then a σ h1 else b σ h1
/-- and, or, not as values (bools) -/
def e_and (a b : SE) : SE := fun σ h => (a σ h).bind fun x h1 => (liftO (asB x) h1).bind fun k h1 => if k then b σ h1 else .ok (.bl false) h1
def e_or (a b : SE) : SE := fun σ h => (a σ h).bind fun x h1 => (liftO (asB x) h1).bind fun k h1 => if k then .ok (.bl true) h1 else b σ h1
def e_not (a : SE) : SE := fun σ h => (a σ h).bind fun x h1 => (liftO (asB x) h1).bind fun k h1 => .ok (.bl (!k)) h1
/-- a op b op' c, b once -/
def e_chain (r r' : D → D → Heap → Res D) (a b c : SE) : SE := fun σ h => (a σ h).bind fun x h1 => (b σ h1).bind fun y h2 => (r x y h2).bind fun z h3 =>
  (liftO (asB z) h3).bind fun k h3 => if k then (c σ h3).bind fun w h4 => r' y w h4 else .ok (.bl false) h3

/-! ### statements -/
inductive Flow where
  | nx (σ : Env) (h : Heap)
  | rt (v : D) (h : Heap)
  | bk (σ : Env) (h : Heap)
  | ct (σ : Env) (h : Heap)
  | exc (c : Nat) (v : D) (σ : Env) (h : Heap)
  | bad
abbrev SS := Env → Heap → Flow
def Res.to {α : Type} (r : Res α) (σ : Env) (f : α → Heap → Flow) : Flow :=
  match r with
  | .ok a h => f a h
  | .exc c v h => .exc c v σ h
  | .bad => .bad
@[simp] theorem Res.to_ok {α : Type} (a : α) (h : Heap) (σ : Env) (f : α → Heap → Flow) : (Res.ok a h).to σ f = f a h := rfl
@[simp] theorem Res.to_bad {α : Type} (σ : Env) (f : α → Heap → Flow) : (Res.bad : Res α).to σ f = .bad := rfl
@[simp] theorem Res.to_exc {α : Type} (c : Nat) (v : D) (h : Heap) (σ : Env) (f : α → Heap → Flow) : (Res.exc c v h : Res α).to σ f = .exc c v σ h := rfl
def Flow.then (r : Flow) (g : SS) : Flow :=
  match r with
  | .nx σ h => g σ h
  | r => r
def s_nil : SS := fun σ h => .nx σ h
def s_cons (f g : SS) : SS := fun σ h => (f σ h).then g
def s_bad : SS := fun _ _ => .bad
def s_expr (e : SE) : SS := fun σ h => (gc h (e σ h)).to σ fun _ h1 => .nx σ h1
def s_ret (e : SE) : SS := fun σ h => (e σ h).to σ fun x h1 => .rt x h1
def s_retN : SS := fun _ h => .rt .non h
def s_if (t : ST) (f g : SS) : SS := fun σ h => (gcB h (t σ h)).to σ fun b h1 => if b then f σ h1 else g σ h1
def s_brk : SS := fun σ h => .bk σ h
def s_cnt : SS := fun σ h => .ct σ h
/-- targets -/
abbrev SG := D → Env → Heap → Flow
def g_name (i : Nat) : SG := fun v σ h => .nx (σ.set i (some v)) h
def g_nil : List D → Env → Heap → Flow
  | [], σ, h => .nx σ h
  | _, _, _ => .bad
def g_cons (g : SG) (gs : List D → Env → Heap → Flow) : List D → Env → Heap → Flow
  | v :: vs, σ, h => (g v σ h).then (gs vs)
  | [], _, _ => .bad
def g_tup (n : Nat) (gs : List D → Env → Heap → Flow) : SG := fun v σ h => match v with
  | .tup ds => if ds.length = n then gs ds σ h else .bad
  | _ => .bad
/-- a store goes on -/
def onlyNx : Flow → Flow
  | .nx σ h => .nx σ h
  | _ => .bad
@[simp] theorem onlyNx_nx (σ : Env) (h : Heap) : onlyNx (.nx σ h) = .nx σ h := rfl
def s_asg (e : SE) (g : SG) : SS := fun σ h => (gc h (e σ h)).to σ fun x h1 => onlyNx (g x σ h1)
/-- a, b = e1, e2 (no tuple is made) -/
def s_par (i j : Nat) (a b : SE) : SS := fun σ h => (a σ h).to σ fun x h1 => (b σ h1).to σ fun y h2 => .nx ((σ.set i (some x)).set j (some y)) h2
/-- a, b, c = e1, e2, e3 -/
def s_par3 (i j k : Nat) (a b c : SE) : SS := fun σ h => (a σ h).to σ fun x h1 => (b σ h1).to σ fun y h2 => (c σ h2).to σ fun z h3 => .nx (((σ.set i (some x)).set j (some y)).set k (some z)) h3
/-- a op= e at a name -/
def s_aug (i : Nat) (op : D → D → Heap → Res D) (e : SE) : SS := fun σ h => match σ[i]? with
  | some (some x) => (e σ h).to σ fun y h1 => (op x y h1).to σ fun z h2 => .nx (σ.set i (some z)) h2
  | _ => .bad
/-- o[i] = e: e, then o, then i -/
def s_put (op : D → D → D → Heap → Res Unit) (o i e : SE) : SS := fun σ h => (e σ h).to σ fun v h1 => (o σ h1).to σ fun x h2 => (i σ h2).to σ fun y h3 => (op x y v h3).to σ fun _ h4 => .nx σ h4
/-- o.f = e: e, then o -/
def s_attr (f : String) (o e : SE) : SS := fun σ h => (e σ h).to σ fun v h1 => (o σ h1).to σ fun x h2 => match x with
  | .ref k => match h2[k]? with
    | some (.ins c fs) => if fs.length < 500 then .nx σ (h2.set k (.ins c (putF f v fs))) else .bad
    | _ => .bad
  | _ => .bad
where putF (f : String) (v : D) : List (String × D) → List (String × D)
  | [] => [(f, v)]
  | (g, x) :: r => if g = f then (g, v) :: r else (g, x) :: putF f v r

/-! ### loops -/
abbrev WF : Nat := 1073741824
def whileF (t : ST) (body : SS) : Nat → SS
  | 0 => s_bad
  | n + 1 => fun σ h => (gcB h (t σ h)).to σ fun b h1 =>
    if b then match body σ h1 with
      | .nx σ' h' => whileF t body n σ' h'
      | .ct σ' h' => whileF t body n σ' h'
      | .bk σ' h' => .nx σ' h'
      | r => r
    else .nx σ h1
def s_while (t : ST) (body : SS) : SS := whileF t body WF
/-- what is walked: the items, and a list that must stand still meanwhile -/
structure Src where
  items : List D
  still : List (Nat × LO) := []
abbrev SI := Env → Heap → Res Src
def Src.ok (s : Src) (h : Heap) : Bool := s.still.all fun p => decide (h[p.1]? = some p.2)
def forF (g : SG) (body : SS) (s : Src) : List D → SS
  | [], σ, h => if s.ok h then .nx σ h else .bad
  | x :: xs, σ, h => if s.ok h then
      match g x σ h with
      | .nx σ1 h1 => match body σ1 h1 with
        | .nx σ' h' => forF g body s xs σ' h'
        | .ct σ' h' => forF g body s xs σ' h'
        | .bk σ' h' => .nx σ' h'
        | r => r
      | _ => .bad
    else .bad
def s_for (it : SI) (g : SG) (body : SS) : SS := fun σ h => (it σ h).to σ fun s h1 => forF g body s s.items σ h1
/-- a list comprehension: the new list stands at D -/
def wipe (σ : Env) : List Nat → Env
  | [] => σ
  | v :: vs => (wipe σ vs).set v none
/-- an error can't leave -/
def noX {α : Type} : Res α → Res α
  | .ok a h => .ok a h
  | _ => .bad
@[simp] theorem noX_ok {α : Type} (a : α) (h : Heap) : noX (.ok a h) = .ok a h := rfl
def lcF (g : SG) (t : ST) (e : SE) (own : List Nat) (s : Src) (L : Nat) : List D → Env → Heap → Res Unit
  | [], _, h => if s.ok h then .ok () h else .bad
  | x :: xs, σ, h => if s.ok h then
      match g x σ h with
      | .nx σ1 h1 => (noX (gcB h1 (t σ1 h1))).bind fun b h2 =>
        if b then (noX (gc h2 (e σ1 h2))).bind fun y h3 => match h3[L]? with
          | some (.lst acc) => if acc.length < LIM then lcF g t e own s L xs σ (h3.set L (.lst (acc ++ [y]))) else .bad
          | _ => .bad
        else lcF g t e own s L xs σ h2
      | _ => .bad
    else .bad
def e_lc (it : SI) (g : SG) (t : ST) (e : SE) (own : List Nat) : SE := fun σ h => (it σ h).bind fun s h1 =>
  (lcF g t e own s h1.length s.items (wipe σ own) (h1 ++ [.lst []])).bind fun _ h2 => .ok (.ref h1.length) h2

/-! ### errors -/
/-- raise C(e) -/
def s_raise (c : Nat) (e : SE) : SS := fun σ h => (gc h (e σ h)).to σ fun v h1 => .exc c v σ h1
/-- an except clause: of which classes, the slot of its name, its suite -/
structure Hd where
  test : Nat → Bool
  slot : Option Nat
  body : SS
def Hd.done (o : Option Nat) : Flow → Flow
  | .nx σ h => .nx (match o with | some i => σ.set i none | none => σ) h
  | .bk σ h => .bk (match o with | some i => σ.set i none | none => σ) h
  | .ct σ h => .ct (match o with | some i => σ.set i none | none => σ) h
  | .rt v h => .rt v h
  | _ => .bad
def tryF : List Hd → Nat → D → Env → Heap → Flow
  | [], c, v, σ, h => .exc c v σ h
  | d :: r, c, v, σ, h => if d.test c then Hd.done d.slot (d.body (match d.slot with | some i => σ.set i (some (.ref h.length)) | none => σ) (h ++ [.err c v])) else tryF r c v σ h
def s_try (b : SS) (hs : List Hd) : SS := fun σ h => match b σ h with
  | .exc c v σ' h' => tryF hs c v σ' h'
  | r => r
/-- an error that is made and held -/
def e_err (c : Nat) (e : SE) : SE := fun σ h => (gc h (e σ h)).bind fun v h1 => newO (.err c v) h1

/-! ### operations by values -/
abbrev O1 := D → Heap → Res D
abbrev O2 := D → D → Heap → Res D
abbrev BIG : Nat := 18446744073709551616
def okB (b : Bool) (h : Heap) : Res D := .ok (.bl b) h
def o_add : O2 := fun x y h => match x, y with
  | .int i, .int j => .ok (.int (i + j)) h
  | .str s, .str t => if s.length + t.length ≤ LIM then .ok (.str (s ++ t)) h else .bad
  | .tup s, .tup t => if s.length + t.length ≤ LIM then .ok (.tup (s ++ t)) h else .bad
  | .ref a, .ref b => match h[a]?, h[b]? with
    | some (.lst s), some (.lst t) => if s.length + t.length ≤ LIM then newO (.lst (s ++ t)) h else .bad
    | _, _ => .bad
  | _, _ => .bad
/-- of ints alone -/
def o_addI : O2 := fun x y h => match x, y with
  | .int i, .int j => .ok (.int (i + j)) h
  | _, _ => .bad
def o_subI : O2 := fun x y h => match x, y with
  | .int i, .int j => .ok (.int (i - j)) h
  | _, _ => .bad
def o_sub : O2 := fun x y h => match x, y with
  | .int i, .int j => .ok (.int (i - j)) h
  | _, _ => .bad
def o_mul : O2 := fun x y h => match x, y with
  | .int i, .int j => if i.natAbs < BIG ∨ j.natAbs < BIG then .ok (.int (i * j)) h else .bad
  | .str s, .int j => if j = 0 then .ok (.str []) h else if j = 1 then .ok (.str s) h else .bad
  | _, _ => .bad
def o_mod : O2 := fun x y h => match x, y with
  | .int i, .int j => if 0 < j then .ok (.int (i % j)) h else .bad
  | _, _ => .bad
def o_fdiv : O2 := fun x y h => match x, y with
  | .int i, .int j => if 0 < j ∧ j < 1073741824 then .ok (.int (i / j)) h else .bad
  | _, _ => .bad
def o_pow : O2 := fun x y h => match x, y with
  | .int i, .int j => if 0 ≤ j ∧ j ≤ 1000 ∧ i.natAbs.log2 < 4096 then .ok (.int (i ^ j.toNat)) h else .bad
  | _, _ => .bad
def o_neg : O1 := fun x h => match x with
  | .int i => .ok (.int (-i)) h
  | _ => .bad
/-- the order of texts -/
def ltT : Txt → Txt → Bool := fun s t => decide (s < t)
def o_lt : O2 := fun x y h => match x, y with
  | .int i, .int j => okB (decide (i < j)) h
  | .str s, .str t => okB (ltT s t) h
  | _, _ => .bad
def o_le : O2 := fun x y h => match x, y with
  | .int i, .int j => okB (decide (i ≤ j)) h
  | _, _ => .bad
def o_gt : O2 := fun x y h => match x, y with
  | .int i, .int j => okB (decide (j < i)) h
  | _, _ => .bad
def o_ge : O2 := fun x y h => match x, y with
  | .int i, .int j => okB (decide (j ≤ i)) h
  | _, _ => .bad
def eqD (h : Heap) (x y : D) : Option Bool := match rd h DEEP x, rd h DEEP y with
  | some p, some q => some (p.eqv q)
  | _, _ => none
def o_eq : O2 := fun x y h => (liftO (eqD h x y) h).bind okB
def o_ne : O2 := fun x y h => (liftO (eqD h x y) h).bind fun b => okB (!b)
def o_is : O2 := fun x y h => match y with
  | .non => okB (decide (x = .non)) h
  | _ => .bad
def o_isnot : O2 := fun x y h => match y with
  | .non => okB (!decide (x = .non)) h
  | _ => .bad
/-- is, is not of bools -/
def o_isB : O2 := fun x y h => match x, y with
  | .bl a, .bl b => okB (decide (a = b)) h
  | _, _ => .bad
def o_isnotB : O2 := fun x y h => match x, y with
  | .bl a, .bl b => okB (!decide (a = b)) h
  | _, _ => .bad
/-- flat values: what in is asked of -/
def flat : D → Option PD
  | .non => some .none
  | .bl b => some (.bool b)
  | .int i => some (.int i)
  | .str s => some (.str s)
  | _ => none
def isIn (h : Heap) (x y : D) : Option Bool := match x, y with
  | .str s, .str t => match s with
    | [c] => some (t.contains c)
    | _ => none
  | x, y => match items h y with
    | some ds => match flat x, mapO flat ds with
      | some p, some qs => some (qs.any fun q => q.eqv p)
      | _, _ => none
    | none => none
def o_in : O2 := fun x y h => (liftO (isIn h x y) h).bind okB
def o_notin : O2 := fun x y h => (liftO (isIn h x y) h).bind fun b => okB (!b)
def ixN (n : Nat) (i : Int) : Option Nat := if 0 ≤ i then (if i < n then some i.toNat else none) else (if 0 ≤ i + n then some (i + n).toNat else none)
def atI {α : Type} (xs : List α) (i : Int) : Option α := (ixN xs.length i).bind fun j => xs[j]?
def o_item : O2 := fun x y h => match x, y with
  | .str s, .int i => if s.length ≤ LIM then liftO ((atI s i).map fun c => .str [c]) h else .bad
  | x, .int i => match items h x with
    | some ds => liftO (atI ds i) h
    | none => .bad
  | _, _ => .bad
/-- bounds of a slice -/
def sIx (n d : Nat) : Option Int → Nat
  | none => d
  | some v => if v < 0 then (v + n).toNat else min v.toNat n
def cut {α : Type} (xs : List α) (lo hi : Option Int) : List α := (xs.drop (sIx xs.length 0 lo)).take (sIx xs.length xs.length hi - sIx xs.length 0 lo)
def asI : D → Option Int
  | .int i => some i
  | _ => none
abbrev SO := Env → Heap → Res (Option Int)
def so_none : SO := fun _ h => .ok none h
def so_some (e : SE) : SO := fun σ h => (e σ h).bind fun x h1 => (liftO (asI x) h1).bind fun i h1 => .ok (some i) h1
def o_slice (x : D) (lo hi : Option Int) (h : Heap) : Res D := match x with
  | .str s => if s.length ≤ LIM then .ok (.str (cut s lo hi)) h else .bad
  | .tup ds => .ok (.tup (cut ds lo hi)) h
  | .frz ds => newO (.lst (cut ds lo hi)) h
  | .ref k => match h[k]? with
    | some (.lst ds) => newO (.lst (cut ds lo hi)) h
    | _ => .bad
  | _ => .bad
def e_slice (a : SE) (lo hi : SO) : SE := fun σ h => (a σ h).bind fun x h1 => (lo σ h1).bind fun i h2 => (hi σ h2).bind fun j h3 => o_slice x i j h3

/-! ### built-ins by their arguments -/
abbrev OL := List D → Heap → Res D
def lenD (h : Heap) : D → Option Nat
  | .str s => if s.length ≤ LIM then some s.length else none
  | .tup ds => some ds.length
  | .frz ds => some ds.length
  | .ref k => match h[k]? with
    | some (.lst ds) => some ds.length
    | _ => none
  | _ => none
def b_len : OL := fun xs h => match xs with
  | [x] => liftO ((lenD h x).map fun n => .int n) h
  | _ => .bad
def b_abs : OL := fun xs h => match xs with
  | [.int i] => .ok (.int (if i < 0 then -i else i)) h
  | _ => .bad
def b_int : OL := fun xs h => match xs with
  | [.int i] => .ok (.int i) h
  | [.bl b] => .ok (.int (if b then 1 else 0)) h
  | _ => .bad
/-- a truth by bool(..): of few kinds -/
def truthB (h : Heap) : D → Option Bool
  | .bl b => some b
  | .int i => some (i != 0)
  | .tup ds => some (!ds.isEmpty)
  | .frz ds => some (!ds.isEmpty)
  | .ref k => match h[k]? with
    | some (.lst ds) => some (!ds.isEmpty)
    | _ => none
  | _ => none
def b_bool : OL := fun xs h => match xs with
  | [x] => (liftO (truthB h x) h).bind okB
  | _ => .bad
def b_max : OL := fun xs h => match xs with
  | [.int i, .int j] => .ok (.int (if j > i then j else i)) h
  | _ => .bad
def b_min : OL := fun xs h => match xs with
  | [.int i, .int j] => .ok (.int (if j < i then j else i)) h
  | _ => .bad
def b_tuple : OL := fun xs h => match xs with
  | [x] => liftO ((items h x).map .tup) h
  | _ => .bad
def b_list : OL := fun xs h => match xs with
  | [x] => (liftO (items h x) h).bind fun ds h => newO (.lst ds) h
  | _ => .bad
def bools (h : Heap) : D → Option (List Bool)
  | .ref k => match h[k]? with
    | some (.lst ds) => mapO asB ds
    | _ => none
  | _ => none
def b_all : OL := fun xs h => match xs with
  | [x] => (liftO (bools h x) h).bind fun bs => okB (bs.all id)
  | _ => .bad
def b_any : OL := fun xs h => match xs with
  | [x] => (liftO (bools h x) h).bind fun bs => okB (bs.any id)
  | _ => .bad
def b_repr (κ : Kap) : OL := fun xs h => match xs with
  | [x] => (liftO (rdX h DEEP x) h).bind fun p h => if p.fits then .ok (.str (κ.shown p)) h else .bad
  | _ => .bad
/-- isinstance of built-in types -/
inductive Ty where
  | tInt | tBool | tStr | tTuple | tList | tDict | tVal | own (c : Nat) | eown (c : Nat)
def Ty.bl : Ty → Bool
  | .tInt => true
  | .tBool => true
  | _ => false
def Ty.int : Ty → Bool
  | .tInt => true
  | _ => false
def Ty.str : Ty → Bool
  | .tStr => true
  | _ => false
def Ty.tup : Ty → Bool
  | .tTuple => true
  | _ => false
def Ty.lst : Ty → Bool
  | .tList => true
  | _ => false
def Ty.dic : Ty → Bool
  | .tDict => true
  | _ => false
def Ty.is (sub : Nat → Nat → Bool) (c : Nat) : Ty → Bool
  | .own d => sub c d
  | _ => false
def Ty.ise (sub : Nat → Nat → Bool) (c : Nat) : Ty → Bool
  | .eown d => sub c (1000 + d)
  | .tVal => true
  | _ => false
def isTy (sub : Nat → Nat → Bool) (h : Heap) (x : D) (t : Ty) : Option Bool := match x with
  | .non => some false
  | .bl _ => some t.bl
  | .int _ => some t.int
  | .str _ => some t.str
  | .tup _ => some t.tup
  | .frz _ => some t.lst
  | .ref k => match h[k]? with
    | some (.lst _) => some t.lst
    | some (.dic _) => some t.dic
    | some (.ins c _) => some (t.is sub c)
    | some (.err c _) => some (t.ise sub c)
    | none => none
/-- isinstance(x, (s, t)) -/
def isErr (h : Heap) : D → Bool
  | .ref k => match h[k]? with
    | some (.err _ _) => true
    | _ => false
  | _ => false
def o_isa2 (sub : Nat → Nat → Bool) (s t : Ty) : O1 := fun x h => if isErr h x = false then (liftO (isTy sub h x s) h).bind fun a h => (liftO (isTy sub h x t) h).bind fun b h => okB (a || b) h else .bad
/-- str(int) -/
def itoa (i : Int) : Txt := (toString i).toList.map Char.toNat
def b_str : OL := fun xs h => match xs with
  | [.int i] => if i.natAbs.log2 < 1920 then .ok (.str (itoa i)) h else .bad
  | [.str s] => .ok (.str s) h
  | _ => .bad
/-- of plain letters and signs -/
def upC (c : Nat) : Nat := if 97 ≤ c ∧ c ≤ 122 then c - 32 else c
def o_upper : O1 := fun x h => match x with
  | .str s => if (s.all fun c => decide (c < 128)) = true ∧ s.length ≤ 5592405 then .ok (.str (s.map upC)) h else .bad
  | _ => .bad
/-- x[::-1] -/
def o_rev : O1 := fun x h => match x with
  | .tup ds => .ok (.tup ds.reverse) h
  | .ref k => match h[k]? with
    | some (.lst ds) => newO (.lst ds.reverse) h
    | _ => .bad
  | _ => .bad
def o_isa (sub : Nat → Nat → Bool) (t : Ty) : O1 := fun x h => (liftO (isTy sub h x t) h).bind okB

/-! ### methods of lists -/
def m_append : O2 := fun x y h => match x with
  | .ref k => match h[k]? with
    | some (.lst ds) => if ds.length < LIM then .ok .non (h.set k (.lst (ds ++ [y]))) else .bad
    | _ => .bad
  | _ => .bad
def m_extend : O2 := fun x y h => match x, y with
  | .ref k, .ref j => match h[k]?, h[j]? with
    | some (.lst ds), some (.lst es) => if ds.length + es.length ≤ LIM then .ok .non (h.set k (.lst (ds ++ es))) else .bad
    | _, _ => .bad
  | _, _ => .bad
/-! dicts -/
def keyOf : D → Option KY
  | .int i => some (.i i)
  | .str s => some (.s s)
  | _ => none
def getK (kvs : List (KY × D)) (k : KY) : Option D := (kvs.find? fun p => decide (p.1 = k)).map (·.2)
def putKD (kvs : List (KY × D)) (k : KY) (v : D) : List (KY × D) := if (kvs.any fun p => decide (p.1 = k)) = true then kvs.map (fun p => if p.1 = k then (p.1, v) else p) else kvs ++ [(k, v)]
/-- {} -/
def e_dic0 : SE := fun _ h => newO (.dic []) h
/-- d[k] -/
def o_dget : O2 := fun x y h => match x with
  | .ref j => match h[j]? with
    | some (.dic kvs) => liftO ((keyOf y).bind fun k => getK kvs k) h
    | _ => .bad
  | _ => .bad
/-- k in d -/
def o_din : O2 := fun y x h => match x with
  | .ref j => match h[j]? with
    | some (.dic kvs) => match keyOf y with
      | some k => okB (getK kvs k).isSome h
      | none => .bad
    | _ => .bad
  | _ => .bad
/-- d.get(k) -/
def o_dget1 : O2 := fun x y h => match x with
  | .ref j => match h[j]? with
    | some (.dic kvs) => match keyOf y with
      | some k => .ok ((getK kvs k).getD .non) h
      | none => .bad
    | _ => .bad
  | _ => .bad
/-- d[k] = v -/
def p_dict (x y v : D) (h : Heap) : Res Unit := match x with
  | .ref j => match h[j]? with
    | some (.dic kvs) => match keyOf y with
      | some k => if kvs.length < LIM then .ok () (h.set j (.dic (putKD kvs k v))) else .bad
      | none => .bad
    | _ => .bad
  | _ => .bad
/-- a display of pairs: the dict is there first -/
def pairsF : List (SE × SE) → Env → Heap → Res (List (D × D))
  | [], _, h => .ok [] h
  | (a, b) :: r, σ, h => (a σ h).bind fun x h1 => (b σ h1).bind fun y h2 => (pairsF r σ h2).bind fun ps h3 => .ok ((x, y) :: ps) h3
def keyed : List (D × D) → Option (List (KY × D))
  | [] => some []
  | (x, y) :: r => match keyOf x, keyed r with
    | some k, some ps => some ((k, y) :: ps)
    | _, _ => none
def e_disp (ps : List (SE × SE)) : SE := fun σ h => (pairsF ps σ (h ++ [.dic []])).bind fun kvs h2 => match h2[h.length]?, keyed kvs with
  | some (.dic []), some rs => if rs.length ≤ 15 then .ok (.ref h.length) (h2.set h.length (.dic (rs.foldl (fun acc p => putKD acc p.1 p.2) []))) else .bad
  | _, _ => .bad
def isLst (h : Heap) : D → Bool
  | .ref k => match h[k]? with
    | some (.lst _) => true
    | _ => false
  | _ => false
/-- a method of a list, the list first looked at -/
def e_lm (op : O2) (a b : SE) : SE := fun σ h => (a σ h).bind fun x h1 => if isLst h1 x then (b σ h1).bind fun y h2 => op x y h2 else .bad
def e_lm3 (op : D → D → D → Heap → Res D) (a b c : SE) : SE := fun σ h => (a σ h).bind fun x h1 => if isLst h1 x then (b σ h1).bind fun y h2 => (c σ h2).bind fun z h3 => op x y z h3 else .bad
def insAt {α : Type} (xs : List α) (n : Nat) (y : α) : List α := xs.take n ++ y :: xs.drop n
def m_insert (x i y : D) (h : Heap) : Res D := match x, i with
  | .ref k, .int i => match h[k]? with
    | some (.lst ds) => if ds.length < LIM ∧ 0 ≤ i ∧ i ≤ ds.length then .ok .non (h.set k (.lst (insAt ds i.toNat y))) else .bad
    | _ => .bad
  | _, _ => .bad
/-- xs[i] = v -/
def p_list (x i v : D) (h : Heap) : Res Unit := match x, i with
  | .ref k, .int i => match h[k]? with
    | some (.lst ds) => if 0 ≤ i ∧ i < ds.length then .ok () (h.set k (.lst (ds.set i.toNat v))) else .bad
    | _ => .bad
  | _, _ => .bad

/-! ### what is walked -/
def i_list (e : SE) : SI := fun σ h => (e σ h).bind fun x h1 => match x with
  | .frz ds => .ok ⟨ds, []⟩ h1
  | .ref k => match h1[k]? with
    | some (.lst ds) => .ok ⟨ds, [(k, .lst ds)]⟩ h1
    | _ => .bad
  | _ => .bad
def i_tup (e : SE) : SI := fun σ h => (e σ h).bind fun x h1 => match x with
  | .tup ds => .ok ⟨ds, []⟩ h1
  | _ => .bad
def i_str (e : SE) : SI := fun σ h => (e σ h).bind fun x h1 => match x with
  | .str s => .ok ⟨s.map fun c => .str [c], []⟩ h1
  | _ => .bad
def rng (lo : Int) (n : Nat) (c : Int) : List D := (List.range n).map fun (k : Nat) => .int (lo + k * c)
abbrev B62 : Int := 4611686018427387904
abbrev B60 : Int := 1152921504606846976
def i_rng1 (e : SE) : SI := fun σ h => (e σ h).bind fun x h1 => match x with
  | .int j => if -B62 ≤ j ∧ j < B62 then .ok ⟨rng 0 j.toNat 1, []⟩ h1 else .bad
  | _ => .bad
def i_rng2 (a b : SE) : SI := fun σ h => (a σ h).bind fun x h1 => (b σ h1).bind fun y h2 => match x, y with
  | .int i, .int j => if -B62 ≤ i ∧ i < B62 ∧ -B62 ≤ j ∧ j < B62 then .ok ⟨rng i (j - i).toNat 1, []⟩ h2 else .bad
  | _, _ => .bad
/-- with a step above 0 -/
def i_rng3 (a b c : SE) : SI := fun σ h => (a σ h).bind fun x h1 => (b σ h1).bind fun y h2 => (c σ h2).bind fun z h3 => match x, y, z with
  | .int i, .int j, .int s => if -B60 ≤ i ∧ i < B60 ∧ -B60 ≤ j ∧ j < B60 ∧ 0 < s ∧ s < 1073741824 then .ok ⟨rng i ((j - i + s - 1) / s).toNat s, []⟩ h3 else .bad
  | _, _, _ => .bad
def zipD : List D → List D → List D
  | a :: as, b :: bs => .tup [a, b] :: zipD as bs
  | _, _ => []
/-- zip of two tuples -/
def i_zipT (a b : SE) : SI := fun σ h => (a σ h).bind fun x h1 => (b σ h1).bind fun y h2 => match x, y with
  | .tup s, .tup t => .ok ⟨zipD s t, []⟩ h2
  | _, _ => .bad

/-! ### instances -/
def fldD (h : Heap) (f : String) : D → Option D
  | .ref k => match h[k]? with
    | some (.ins _ fs) => fs.lookup f
    | _ => none
  | _ => none
/-- an error's value -/
def o_errval : O1 := fun x h => match x with
  | .ref k => match h[k]? with
    | some (.err _ v) => .ok v h
    | _ => .bad
  | _ => .bad
def o_fld (f : String) : O1 := fun x h => liftO (fldD h f x) h
/-- the class of an instance -/
def clsD (h : Heap) : D → Option Nat
  | .ref k => match h[k]? with
    | some (.ins c _) => some c
    | _ => none
  | _ => none
/-- o.m(..), a method of the class c at the number f -/
def o_meth (κ : Kap) (c f : Nat) (x : D) : OL := fun ys h => if clsD h x = some c then κ.fn f (x :: ys) h else .bad
def e_meth (κ : Kap) (c f : Nat) (o : SE) (a : SA) : SE := fun σ h => (o σ h).bind fun x h1 => (a σ h1).bind fun ys h2 => o_meth κ c f x ys h2
/-- C(..): a new instance, then its __init__ -/
def o_new (κ : Kap) (c f : Nat) : OL := fun ys h => (κ.ini f (.ref h.length :: ys) (h ++ [.ins c []])).bind fun v h1 => if v = .non then .ok (.ref h.length) h1 else .bad
/-- a function of its arguments that is a def -/
def o_fn (κ : Kap) (f : Nat) : OL := κ.fn f
/-- o.f, a property -/
def e_prop (κ : Kap) (c f : Nat) (o : SE) : SE := fun σ h => (o σ h).bind fun x h1 => if clsD h1 x = some c then noX (κ.ini f [x] h1) else .bad
/-- a built-in function by an own method -/
def o_low (κ : Kap) (c f : Nat) : OL := fun xs h => match xs with
  | [x] => if clsD h x = some c then noX (κ.low f [x] h) else .bad
  | _ => .bad
/-- bool(..) by an own method -/
def b_own (low : OL) : OL := fun xs h => (low xs h).bind fun v h1 => (liftO (asB v) h1).bind okB
/-- what may stand beside an own one -/
def okR (h : Heap) (c : Nat) : D → Bool
  | .str _ => true
  | .ref k => clsD h (.ref k) == some c
  | _ => false
/-- an own operator: the left one's method, else the right one's (beside a text) -/
def o_own (κ : Kap) (c f fr : Nat) : O2 := fun x y h =>
  if clsD h x = some c then (if okR h c y then κ.fn f [x, y] h else .bad)
  else match x with
    | .str _ => if clsD h y = some c then κ.fn fr [y, x] h else .bad
    | _ => .bad
/-- in place -/
def o_ownI (κ : Kap) (c f fr : Nat) : O2 := fun x y h => if clsD h x = some c then noX (o_own κ c f fr x y h) else .bad
/-- an own comparison of two of a class -/
def o_cmp (κ : Kap) (c f : Nat) : O2 := fun x y h => if clsD h x = some c ∧ clsD h y = some c then κ.fn f [x, y] h else .bad
/-- a built-in type's name -/
def plainTy (h : Heap) : D → Option String
  | .non => some "NoneType"
  | .bl _ => some "bool"
  | .int _ => some "int"
  | .str _ => some "str"
  | .tup _ => some "tuple"
  | .frz _ => some "list"
  | .ref k => match h[k]? with
    | some (.lst _) => some "list"
    | some (.dic _) => some "dict"
    | _ => none
/-- == beside anything, by the left one's -/
def o_cmpA (κ : Kap) (c f : Nat) : O2 := fun x y h => if clsD h x = some c ∧ (clsD h y = some c ∨ (plainTy h y).isSome = true) then κ.fn f [x, y] h else .bad
/-- != of two of a class, by their == -/
def o_ncmp (κ : Kap) (c f : Nat) : O2 := fun x y h => if clsD h x = some c ∧ clsD h y = some c then (noX (κ.ini f [x, y] h)).bind fun v h1 => (liftO (asB v) h1).bind fun b => okB (!b) else .bad
/-- x in o -/
def o_ownIn (κ : Kap) (c f : Nat) : O2 := fun x y h => if clsD h y = some c then (κ.fn f [y, x] h).bind fun v h1 => (liftO (asB v) h1).bind okB else .bad

/-! ### defs -/
structure Def where
  np : Nat
  n : Nat
  body : Kap → SS
def runDef (κ : Kap) (d : Def) (args : List D) (h : Heap) : Res D :=
  if args.length = d.np then
    gc h (match d.body κ (args.map some ++ List.replicate (d.n - d.np) none) h with
      | .rt v h' => .ok v h'
      | .nx _ h' => .ok .non h'
      | .exc c v _ h' => .exc c v h'
      | _ => .bad)
  else .bad
structure Prog where
  defs : Nat → Option Def
  shown : PX → Txt
/-- calls at most so deep; behind three levels for what the machine itself puts between -/
def callF (P : Prog) : Nat → Nat → List D → Heap → Res D
  | n + 4, f, args, h => match P.defs f with
    | some d => runDef ⟨callF P (n + 3), callF P (n + 2), callF P n, P.shown⟩ d args h
    | none => .bad
  | _, _, _, _ => .bad
abbrev kap (P : Prog) (n : Nat) : Kap := ⟨callF P (n + 3), callF P (n + 2), callF P n, P.shown⟩
theorem callF_succ (P : Prog) (n f : Nat) (args : List D) (h : Heap) (d : Def) (e : P.defs f = some d) : callF P (n + 4) f args h = runDef (kap P n) d args h := by
  simp only [callF, e]
end IR
end

section
set_option linter.all false
set_option autoImplicit false
/-! tools for proofs about defs in the small semantics -/
namespace IR
theorem liftO_some {α : Type} (a : α) (h : Heap) : liftO (some a) h = .ok a h := rfl
theorem gc_int {h : Heap} {i : Int} : gc h (.ok (.int i) h) = .ok (.int i) h := gc_self rfl
theorem gc_bl {h : Heap} {b : Bool} : gc h (.ok (.bl b) h) = .ok (.bl b) h := gc_self rfl
theorem gc_str {h : Heap} {s : Txt} : gc h (.ok (.str s) h) = .ok (.str s) h := gc_self rfl
theorem gc_non {h : Heap} : gc h (.ok .non h) = .ok .non h := gc_self rfl
theorem gcB_self {h : Heap} {b : Bool} : gcB h (.ok b h) = .ok b h := by simp [gcB, agree_self]
theorem gcB_app {h g : Heap} {b : Bool} : gcB h (.ok b (h ++ g)) = .ok b h := by simp [gcB, agree_app]
theorem gcB_set {h g : Heap} {b : Bool} {p : Nat} {o : LO} (ho : o.pure = true) : gcB h (.ok b (h.set p o ++ g)) = .ok b (h.set p o) := by simp [gcB, agree_set, ho]
theorem gc_set0 {h : Heap} {v : D} {p : Nat} {o : LO} (hv : v.pure = true) (ho : o.pure = true) : gc h (.ok v (h.set p o)) = .ok v (h.set p o) := by
  have := gc_set (h := h) (g := []) (p := p) hv ho
  simpa using this
theorem gcB_set0 {h : Heap} {b : Bool} {p : Nat} {o : LO} (ho : o.pure = true) : gcB h (.ok b (h.set p o)) = .ok b (h.set p o) := by
  have := gcB_set (h := h) (g := []) (b := b) (p := p) ho
  simpa using this
theorem get_new {h : Heap} {o : LO} : (h ++ [o])[h.length]? = some o := by simp
theorem get_old {h g : Heap} {k : Nat} {o : LO} (e : h[k]? = some o) : (h ++ g)[k]? = some o := by
  rw [List.getElem?_append_left (List.getElem?_eq_some_iff.mp e).1]; exact e
theorem get_set {h : Heap} {k : Nat} {o o' : LO} (e : h[k]? = some o) : (h.set k o')[k]? = some o' := List.getElem?_set_self (List.getElem?_eq_some_iff.mp e).1
theorem get_lt {h : Heap} {k : Nat} {o : LO} (e : h[k]? = some o) : k < h.length := (List.getElem?_eq_some_iff.mp e).1
/-- a def's answer from its body's -/
theorem run_rt {κ : Kap} {d : Def} {args : List D} {h h' : Heap} {v : D} (hl : args.length = d.np) (e : d.body κ (args.map some ++ List.replicate (d.n - d.np) none) h = .rt v h') : runDef κ d args h = gc h (.ok v h') := by
  unfold runDef
  rw [if_pos hl, e]
theorem run_nx {κ : Kap} {d : Def} {args : List D} {h h' : Heap} {σ : Env} (hl : args.length = d.np) (e : d.body κ (args.map some ++ List.replicate (d.n - d.np) none) h = .nx σ h') : runDef κ d args h = gc h (.ok .non h') := by
  unfold runDef
  rw [if_pos hl, e]
/-! loops by an invariant -/
theorem drop_get {α : Type} {l : List α} {i : Nat} {x : α} {xs : List α} (e : l.drop i = x :: xs) : l[i]? = some x ∧ l.drop (i + 1) = xs := by
  constructor
  · have := congrArg List.head? e
    simpa [List.head?_drop] using this
  · have := congrArg List.tail e
    simpa [List.tail_drop] using this
theorem drop_nil {α : Type} {l : List α} {i : Nat} (e : l.drop i = []) : l.length ≤ i := by simpa using e
theorem set_new {h : Heap} {o o' : LO} : (h ++ [o]).set h.length o' = h ++ [o'] := by simp
theorem lc_go {g : SG} {t : ST} {e : SE} {own : List Nat} {src : Src} {σ : Env} {L : Nat} {I : Nat → Heap → List D → Prop}
    (hL : ∀ i h acc, I i h acc → h.length = L ∧ acc.length ≤ i ∧ src.ok (h ++ [.lst acc]) = true) (hm : src.items.length ≤ LIM)
    (step : ∀ i x h acc, src.items[i]? = some x → I i h acc → ∃ σ1, g x σ (h ++ [.lst acc]) = .nx σ1 (h ++ [.lst acc]) ∧ ∃ bb h1, gcB (h ++ [.lst acc]) (t σ1 (h ++ [.lst acc])) = .ok bb (h1 ++ [.lst acc]) ∧
      (bb = false → I (i + 1) h1 acc) ∧ (bb = true → ∃ y h2, gc (h1 ++ [.lst acc]) (e σ1 (h1 ++ [.lst acc])) = .ok y (h2 ++ [.lst acc]) ∧ h2.length = L ∧ I (i + 1) h2 (acc ++ [y]))) :
    ∀ (xs : List D) (i : Nat) (h : Heap) (acc : List D), src.items.drop i = xs → I i h acc → ∃ h' acc', I (max i src.items.length) h' acc' ∧ lcF g t e own src L xs σ (h ++ [.lst acc]) = .ok () (h' ++ [.lst acc'])
  | [], i, h, acc, e0, hI => by
    have hn := drop_nil e0
    refine ⟨h, acc, by rw [Nat.max_eq_left hn]; exact hI, ?_⟩
    simp only [lcF, (hL i h acc hI).2.2, if_true]
  | x :: xs, i, h, acc, e0, hI => by
    obtain ⟨e1, e2⟩ := drop_get e0
    have hi : i < src.items.length := (List.getElem?_eq_some_iff.mp e1).1
    obtain ⟨σ1, g1, bb, h1, t1, f, k⟩ := step i x h acc e1 hI
    obtain ⟨l1, l2, ok⟩ := hL i h acc hI
    cases bb with
    | false =>
      obtain ⟨h', acc', hI', r⟩ := lc_go hL hm step xs (i + 1) h1 acc e2 (f rfl)
      refine ⟨h', acc', by rw [Nat.max_eq_right (by omega)] at hI' ⊢; exact hI', ?_⟩
      simp only [lcF, ok, if_true, g1, t1, noX_ok, Res.bind_ok, Bool.false_eq_true, if_false]
      exact r
    | true =>
      obtain ⟨y, h2, ey, l3, hI2⟩ := k rfl
      obtain ⟨h', acc', hI', r⟩ := lc_go hL hm step xs (i + 1) h2 (acc ++ [y]) e2 hI2
      refine ⟨h', acc', by rw [Nat.max_eq_right (by omega)] at hI' ⊢; exact hI', ?_⟩
      have at_ : (h2 ++ [LO.lst acc])[L]? = some (.lst acc) := by rw [← l3]; exact get_new
      have st : (h2 ++ [LO.lst acc]).set L (.lst (acc ++ [y])) = h2 ++ [.lst (acc ++ [y])] := by rw [← l3]; exact set_new
      have hlt : acc.length < LIM := by omega
      simp only [lcF, ok, if_true, g1, t1, noX_ok, Res.bind_ok, ey, at_, hlt, st]
      exact r
theorem lc_inv {it : SI} {g : SG} {t : ST} {e : SE} {own : List Nat} {src : Src} {σ : Env} {h : Heap} (I : Nat → Heap → List D → Prop) (hi : it σ h = .ok src h)
    (hL : ∀ i h' acc, I i h' acc → h'.length = h.length ∧ acc.length ≤ i ∧ src.ok (h' ++ [.lst acc]) = true) (hm : src.items.length ≤ LIM) (h0 : I 0 h [])
    (step : ∀ i x h' acc, src.items[i]? = some x → I i h' acc → ∃ σ1, g x (wipe σ own) (h' ++ [.lst acc]) = .nx σ1 (h' ++ [.lst acc]) ∧ ∃ bb h1, gcB (h' ++ [.lst acc]) (t σ1 (h' ++ [.lst acc])) = .ok bb (h1 ++ [.lst acc]) ∧
      (bb = false → I (i + 1) h1 acc) ∧ (bb = true → ∃ y h2, gc (h1 ++ [.lst acc]) (e σ1 (h1 ++ [.lst acc])) = .ok y (h2 ++ [.lst acc]) ∧ h2.length = h.length ∧ I (i + 1) h2 (acc ++ [y]))) :
    ∃ h' acc, I src.items.length h' acc ∧ e_lc it g t e own σ h = .ok (.ref h.length) (h' ++ [.lst acc]) := by
  obtain ⟨h', acc, hI, r⟩ := lc_go (e := e) (own := own) (L := h.length) (σ := wipe σ own) hL hm step src.items 0 h [] rfl h0
  rw [Nat.max_eq_right (Nat.zero_le _)] at hI
  refine ⟨h', acc, hI, ?_⟩
  simp only [e_lc, hi, Res.bind_ok, r]
/-- no change of the heap -/
theorem lc_spec {it : SI} {g : SG} {t : ST} {e : SE} {own : List Nat} {src : Src} {σ : Env} {h : Heap} (b : D → Bool) (y : D → D) (hi : it σ h = .ok src h) (ho : ∀ acc, src.ok (h ++ [.lst acc]) = true) (hm : src.items.length ≤ LIM)
    (hs : ∀ x ∈ src.items, ∀ acc, ∃ σ1, g x (wipe σ own) (h ++ [.lst acc]) = .nx σ1 (h ++ [.lst acc]) ∧ t σ1 (h ++ [.lst acc]) = .ok (b x) (h ++ [.lst acc]) ∧ (b x = true → gc (h ++ [.lst acc]) (e σ1 (h ++ [.lst acc])) = .ok (y x) (h ++ [.lst acc]))) :
    e_lc it g t e own σ h = .ok (.ref h.length) (h ++ [.lst ((src.items.filter b).map y)]) := by
  obtain ⟨h', acc, ⟨rfl, rfl⟩, r⟩ := lc_inv (t := t) (e := e) (g := g) (own := own) (fun i h' acc => h' = h ∧ acc = ((src.items.take i).filter b).map y) hi (fun i h' acc ⟨e1, e2⟩ => by
      subst e1 e2
      refine ⟨rfl, ?_, ho _⟩
      rw [List.length_map]
      exact Nat.le_trans (List.length_filter_le _ _) (by rw [List.length_take]; exact Nat.min_le_left _ _)) hm ⟨rfl, by simp⟩ (fun i x h' acc hx ⟨e1, e2⟩ => by
      subst e1
      obtain ⟨σ1, g1, t1, k⟩ := hs x (List.mem_of_getElem? hx) acc
      have tk : src.items.take (i + 1) = src.items.take i ++ [x] := by
        rw [List.take_add_one, hx]; rfl
      refine ⟨σ1, g1, b x, h', by rw [t1]; exact gcB_self, fun hb => ⟨rfl, ?_⟩, fun hb => ⟨y x, h', k hb, rfl, rfl, ?_⟩⟩
      · rw [e2, tk, List.filter_append, List.map_append]
        simp [hb]
      · rw [e2, tk, List.filter_append, List.map_append]
        simp [hb])
  rw [r, List.take_length]
/-- .. without a test -/
theorem lc_all {it : SI} {g : SG} {e : SE} {own : List Nat} {src : Src} {σ : Env} {h : Heap} (y : D → D) (hi : it σ h = .ok src h) (ho : ∀ acc, src.ok (h ++ [.lst acc]) = true) (hm : src.items.length ≤ LIM)
    (hs : ∀ x ∈ src.items, ∀ acc, ∃ σ1, g x (wipe σ own) (h ++ [.lst acc]) = .nx σ1 (h ++ [.lst acc]) ∧ gc (h ++ [.lst acc]) (e σ1 (h ++ [.lst acc])) = .ok (y x) (h ++ [.lst acc])) :
    e_lc it g t_yes e own σ h = .ok (.ref h.length) (h ++ [.lst (src.items.map y)]) := by
  have := lc_spec (t := t_yes) (fun _ => true) y hi ho hm (fun x hx acc => by
    obtain ⟨σ1, g1, e1⟩ := hs x hx acc
    exact ⟨σ1, g1, rfl, fun _ => e1⟩)
  rw [List.filter_eq_self.mpr (fun _ _ => rfl)] at this
  exact this
theorem mapO_bl (bs : List Bool) : mapO asB (bs.map .bl) = some bs := by
  induction bs with
  | nil => rfl
  | cons b r ih => simp [mapO, asB, ih]
/-- all([..]) of tests -/
theorem all_new {h : Heap} {xs : List D} {b : D → Bool} : b_all [.ref h.length] (h ++ [.lst (xs.map fun x => .bl (b x))]) = .ok (.bl (xs.all b)) (h ++ [.lst (xs.map fun x => .bl (b x))]) := by
  have e : (xs.map fun x => D.bl (b x)) = (xs.map b).map .bl := by simp
  simp only [b_all, bools, get_new]
  rw [e, mapO_bl]
  simp [liftO_some, okB]
theorem all_true {h : Heap} {xs : List D} : b_all [.ref h.length] (h ++ [.lst (xs.map fun _ => .bl true)]) = .ok (.bl true) (h ++ [.lst (xs.map fun _ => .bl true)]) := by
  have := all_new (h := h) (xs := xs) (b := fun _ => true)
  rw [List.all_eq_true.mpr (fun _ _ => rfl)] at this
  exact this
theorem mid_get {h g : Heap} {o : LO} : (h ++ o :: g)[h.length]? = some o := by simp
theorem mid_set {h g : Heap} {o o' : LO} : (h ++ o :: g).set h.length o' = h ++ o' :: g := by simp
/-- a comprehension whose elements leave new objects behind the list -/
theorem mid_go {g : SG} {t : ST} {e : SE} {own : List Nat} {src : Src} {σ : Env} {h : Heap} {I : Nat → Heap → List D → Prop}
    (hL : ∀ i x acc, I i x acc → acc.length ≤ i ∧ src.ok (h ++ .lst acc :: x) = true) (hm : src.items.length ≤ LIM)
    (step : ∀ i x z acc, src.items[i]? = some z → I i x acc → ∃ σ1, g z σ (h ++ .lst acc :: x) = .nx σ1 (h ++ .lst acc :: x) ∧ ∃ bb, t σ1 (h ++ .lst acc :: x) = .ok bb (h ++ .lst acc :: x) ∧
      (bb = false → I (i + 1) x acc) ∧ (bb = true → ∃ y x', gc (h ++ .lst acc :: x) (e σ1 (h ++ .lst acc :: x)) = .ok y (h ++ .lst acc :: x') ∧ I (i + 1) x' (acc ++ [y]))) :
    ∀ (zs : List D) (i : Nat) (x : Heap) (acc : List D), src.items.drop i = zs → I i x acc → ∃ x' acc', I (max i src.items.length) x' acc' ∧ lcF g t e own src h.length zs σ (h ++ .lst acc :: x) = .ok () (h ++ .lst acc' :: x')
  | [], i, x, acc, e0, hI => ⟨x, acc, by rw [Nat.max_eq_left (drop_nil e0)]; exact hI, by simp only [lcF, (hL i x acc hI).2, if_true]⟩
  | z :: zs, i, x, acc, e0, hI => by
    obtain ⟨e1, e2⟩ := drop_get e0
    have hi : i < src.items.length := (List.getElem?_eq_some_iff.mp e1).1
    obtain ⟨σ1, g1, bb, t1, f, k⟩ := step i x z acc e1 hI
    obtain ⟨l2, ok⟩ := hL i x acc hI
    cases bb with
    | false =>
      obtain ⟨x', acc', hI', r⟩ := mid_go hL hm step zs (i + 1) x acc e2 (f rfl)
      refine ⟨x', acc', by rw [Nat.max_eq_right (by omega)] at hI' ⊢; exact hI', ?_⟩
      simp only [lcF, ok, if_true, g1, t1, gcB_self, noX_ok, Res.bind_ok, Bool.false_eq_true, if_false]
      exact r
    | true =>
      obtain ⟨y, x2, ey, hI2⟩ := k rfl
      obtain ⟨x', acc', hI', r⟩ := mid_go hL hm step zs (i + 1) x2 (acc ++ [y]) e2 hI2
      refine ⟨x', acc', by rw [Nat.max_eq_right (by omega)] at hI' ⊢; exact hI', ?_⟩
      have hlt : acc.length < LIM := by omega
      simp only [lcF, ok, if_true, g1, t1, gcB_self, noX_ok, Res.bind_ok, ey, mid_get, hlt, mid_set]
      exact r
theorem lc_mid {it : SI} {g : SG} {t : ST} {e : SE} {own : List Nat} {src : Src} {σ : Env} {h : Heap} (I : Nat → Heap → List D → Prop) (hi : it σ h = .ok src h)
    (hL : ∀ i x acc, I i x acc → acc.length ≤ i ∧ src.ok (h ++ .lst acc :: x) = true) (hm : src.items.length ≤ LIM) (h0 : I 0 [] [])
    (step : ∀ i x z acc, src.items[i]? = some z → I i x acc → ∃ σ1, g z (wipe σ own) (h ++ .lst acc :: x) = .nx σ1 (h ++ .lst acc :: x) ∧ ∃ bb, t σ1 (h ++ .lst acc :: x) = .ok bb (h ++ .lst acc :: x) ∧
      (bb = false → I (i + 1) x acc) ∧ (bb = true → ∃ y x', gc (h ++ .lst acc :: x) (e σ1 (h ++ .lst acc :: x)) = .ok y (h ++ .lst acc :: x') ∧ I (i + 1) x' (acc ++ [y]))) :
    ∃ x acc, I src.items.length x acc ∧ e_lc it g t e own σ h = .ok (.ref h.length) (h ++ .lst acc :: x) := by
  obtain ⟨x, acc, hI, r⟩ := mid_go (e := e) (own := own) (σ := wipe σ own) hL hm step src.items 0 [] [] rfl h0
  rw [Nat.max_eq_right (Nat.zero_le _)] at hI
  exact ⟨x, acc, hI, by simp only [e_lc, hi, Res.bind_ok, r]⟩
theorem for_go {g : SG} {body : SS} {src : Src} {I : Nat → Env → Heap → Prop} (ok : ∀ i σ h, I i σ h → src.ok h = true)
    (step : ∀ i x σ h, src.items[i]? = some x → I i σ h → ∃ σ1, g x σ h = .nx σ1 h ∧ ∃ σ' h', body σ1 h = .nx σ' h' ∧ I (i + 1) σ' h') :
    ∀ (xs : List D) (i : Nat) (σ : Env) (h : Heap), src.items.drop i = xs → I i σ h → ∃ σ' h', I (max i src.items.length) σ' h' ∧ forF g body src xs σ h = .nx σ' h'
  | [], i, σ, h, e0, hI => ⟨σ, h, by rw [Nat.max_eq_left (drop_nil e0)]; exact hI, by simp only [forF, ok i σ h hI, if_true]⟩
  | x :: xs, i, σ, h, e0, hI => by
    obtain ⟨e1, e2⟩ := drop_get e0
    have hi : i < src.items.length := (List.getElem?_eq_some_iff.mp e1).1
    obtain ⟨σ1, g1, σ', h', b1, hI'⟩ := step i x σ h e1 hI
    obtain ⟨σ2, h2, hI2, r⟩ := for_go ok step xs (i + 1) σ' h' e2 hI'
    refine ⟨σ2, h2, by rw [Nat.max_eq_right (by omega)] at hI2 ⊢; exact hI2, ?_⟩
    simp only [forF, ok i σ h hI, if_true, g1, b1]
    exact r
/-- a for loop that runs to its end -/
theorem for_inv {it : SI} {g : SG} {body : SS} {src : Src} {σ : Env} {h h1 : Heap} (I : Nat → Env → Heap → Prop) (hi : it σ h = .ok src h1) (ok : ∀ i σ h, I i σ h → src.ok h = true) (h0 : I 0 σ h1)
    (step : ∀ i x σ h, src.items[i]? = some x → I i σ h → ∃ σ1, g x σ h = .nx σ1 h ∧ ∃ σ' h', body σ1 h = .nx σ' h' ∧ I (i + 1) σ' h') : ∃ σ' h', I src.items.length σ' h' ∧ s_for it g body σ h = .nx σ' h' := by
  obtain ⟨σ', h', hI, r⟩ := for_go ok step src.items 0 σ h1 rfl h0
  rw [Nat.max_eq_right (Nat.zero_le _)] at hI
  exact ⟨σ', h', hI, by simp only [s_for, hi, Res.to_ok, r]⟩
/-- a while loop that ends by its test; m: what gets smaller -/
theorem while_go {t : ST} {body : SS} {I : Env → Heap → Prop} {m : Env → Heap → Nat} {Z : Env → Heap → Prop}
    (step : ∀ σ h, I σ h → ∃ b h1, gcB h (t σ h) = .ok b h1 ∧ (b = false → Z σ h1) ∧ (b = true → ∃ σ' h', body σ h1 = .nx σ' h' ∧ I σ' h' ∧ m σ' h' < m σ h)) :
    ∀ (n : Nat) (σ : Env) (h : Heap), I σ h → m σ h < n → ∃ σ' h', Z σ' h' ∧ whileF t body n σ h = .nx σ' h'
  | 0, σ, h, _, hl => absurd hl (Nat.not_lt_zero _)
  | n + 1, σ, h, hI, hl => by
    obtain ⟨b, h1, t1, f, k⟩ := step σ h hI
    cases b with
    | false => exact ⟨σ, h1, f rfl, by simp only [whileF, t1, Res.to_ok, Bool.false_eq_true, if_false]⟩
    | true =>
      obtain ⟨σ', h', b1, hI', lt⟩ := k rfl
      obtain ⟨σ2, h2, z, r⟩ := while_go step n σ' h' hI' (by omega)
      exact ⟨σ2, h2, z, by simp only [whileF, t1, Res.to_ok, if_true, b1]; exact r⟩
theorem while_inv {t : ST} {body : SS} {σ : Env} {h : Heap} (I : Env → Heap → Prop) (m : Env → Heap → Nat) (Z : Env → Heap → Prop) (h0 : I σ h) (hm : m σ h < WF)
    (step : ∀ σ h, I σ h → ∃ b h1, gcB h (t σ h) = .ok b h1 ∧ (b = false → Z σ h1) ∧ (b = true → ∃ σ' h', body σ h1 = .nx σ' h' ∧ I σ' h' ∧ m σ' h' < m σ h)) : ∃ σ' h', Z σ' h' ∧ s_while t body σ h = .nx σ' h' :=
  while_go step WF σ h h0 hm
end IR
end

section
set_option linter.all false
set_option autoImplicit false
/-! texts in order; lists of texts in the small semantics -/
namespace IR
theorem txt_irrefl (a : Txt) : ¬ a < a := List.lt_irrefl a
theorem txt_trans {a b c : Txt} (h : a < b) (k : b < c) : a < c := List.lt_trans h k
theorem txt_total {a b : Txt} (h : ¬ a < b) (n : a ≠ b) : b < a := by
  rcases Std.Trichotomous.rel_or_eq_or_rel_swap (r := (· < · : Txt → Txt → Prop)) (a := a) (b := b) with x | x | x
  · exact (h x).elim
  · exact (n x).elim
  · exact x
abbrev Asc (l : List Txt) : Prop := l.Pairwise (· < ·)
abbrev txts (l : List Txt) : List D := l.map .str
theorem pures_strs (l : List Txt) : D.pures (txts l) = true := by
  induction l with
  | nil => rfl
  | cons a r ih => simp [D.pures, D.pure, ih]
theorem flat_strs (l : List Txt) : mapO flat (txts l) = some (l.map PD.str) := by
  induction l with
  | nil => rfl
  | cons a r ih => simp [mapO, flat, ih]
theorem any_strs (l : List Txt) (x : Txt) : ((l.map PD.str).any fun q => q.eqv (.str x)) = decide (x ∈ l) := by
  induction l with
  | nil => rfl
  | cons a r ih =>
    rw [List.map_cons, List.any_cons, ih]
    by_cases h : x = a
    · subst h; simp [PD.eqv]
    · have : (a == x) = false := beq_eq_false_iff_ne.mpr (Ne.symm h)
      simp [PD.eqv, this, h]
theorem isIn_ref {h : Heap} {k : Nat} {l : List Txt} {x : Txt} (e : h[k]? = some (.lst (txts l))) : isIn h (.str x) (.ref k) = some (decide (x ∈ l)) := by
  simp only [isIn, items, e, flat_strs, any_strs, flat]
theorem isIn_tup {h : Heap} {l : List Txt} {x : Txt} : isIn h (.str x) (.tup (txts l)) = some (decide (x ∈ l)) := by
  simp only [isIn, items, flat_strs, any_strs, flat]
/-- a list in order is known by what is in it -/
theorem asc_ext : ∀ {l m : List Txt}, Asc l → Asc m → (∀ x, x ∈ l ↔ x ∈ m) → l = m
  | [], [], _, _, _ => rfl
  | [], b :: m, _, _, h => by have := (h b).mpr List.mem_cons_self; cases this
  | a :: l, [], _, _, h => by have := (h a).mp List.mem_cons_self; cases this
  | a :: l, b :: m, hl, hm, h => by
    rw [Asc, List.pairwise_cons] at hl hm
    have ab : a = b := by
      rcases List.mem_cons.mp ((h a).mp List.mem_cons_self) with e | e
      · exact e
      · rcases List.mem_cons.mp ((h b).mpr List.mem_cons_self) with e2 | e2
        · exact e2.symm
        · exact (txt_irrefl a (txt_trans (hl.1 b e2) (hm.1 a e))).elim
    subst ab
    rw [asc_ext hl.2 hm.2 fun x => ?_]
    have hx := h x
    simp only [List.mem_cons] at hx
    constructor
    · intro q
      rcases hx.mp (.inr q) with e | e
      · subst e; exact (txt_irrefl x (hl.1 x q)).elim
      · exact e
    · intro q
      rcases hx.mpr (.inr q) with e | e
      · subst e; exact (txt_irrefl x (hm.1 x q)).elim
      · exact e
theorem asc_ins {l : List Txt} {n : Nat} {x : Txt} (hl : Asc l) (h1 : ∀ y ∈ l.take n, y < x) (h2 : ∀ y ∈ l.drop n, x < y) : Asc (insAt l n x) := by
  unfold insAt
  have hs := List.take_append_drop n l
  rw [Asc, ← hs, List.pairwise_append] at hl
  rw [Asc, List.pairwise_append, List.pairwise_cons]
  refine ⟨hl.1, ⟨h2, hl.2.1⟩, fun a ha b hb => ?_⟩
  rcases List.mem_cons.mp hb with e | e
  · subst e; exact h1 a ha
  · exact txt_trans (h1 a ha) (h2 b e)
theorem mem_ins {l : List Txt} {n : Nat} {x y : Txt} : y ∈ insAt l n x ↔ y = x ∨ y ∈ l := by
  unfold insAt
  have hs := List.take_append_drop n l
  constructor
  · intro h
    rcases List.mem_append.mp h with h | h
    · exact .inr (List.mem_of_mem_take h)
    · rcases List.mem_cons.mp h with h | h
      · exact .inl h
      · exact .inr (List.mem_of_mem_drop h)
  · rintro (h | h)
    · subst h; simp
    · rw [← hs] at h
      rcases List.mem_append.mp h with h | h
      · exact List.mem_append.mpr (.inl h)
      · exact List.mem_append.mpr (.inr (List.mem_cons_of_mem _ h))
theorem ins_strs (l : List Txt) (n : Nat) (x : Txt) : insAt (txts l) n (.str x) = txts (insAt l n x) := by
  simp [insAt, List.map_take, List.map_drop]
end IR
end

section
set_option Elab.async false
set_option linter.all false
set_option autoImplicit false
set_option maxRecDepth 100000
set_option maxHeartbeats 4000000
/-! The small semantics holds of the big one: one lemma a combinator, over the hand layer. -/
namespace IR
open PySem PySem.Spec PyProof.Rows L2

abbrev toStr (s : Txt) : Str := ⟨s.toArray⟩
/-- code points -/
def okT (s : Txt) : Prop := ∀ c ∈ s, c < 1114112
/-- what an address of a class, a field's name, is -/
structure Wd where
  K : PySem.W.Frag
  cl : Nat → Addr
  /-- classes of errors -/
  ec : Nat → Addr
  fld : String → Str

/-- a list that nobody writes -/
def SqF (K : PySem.W.Frag) (H : Hp) (a : Addr) (xs : List V) : Prop := (∃ o, H a = some (.frz o (.lst xs))) ∨ ∀ H', SqL K H' a xs
theorem SqF.sql {K : PySem.W.Frag} {H : Hp} {a : Addr} {xs : List V} (h : SqF K H a xs) : SqL K H a xs := h.elim (fun ⟨o, e⟩ => .inl (.inr ⟨o, e⟩)) fun h => h H
section rep
variable (K : PySem.W.Frag)
mutual
def Rep (α : List Addr) (H : Hp) : D → V → Prop
  | .non, v => v = .non
  | .bl b, v => v = .bl b
  | .int i, v => v = .int i
  | .str s, v => v = .str (toStr s) ∧ okT s
  | .tup ds, v => ∃ p vs, v = .ref p ∧ SqT K H p vs ∧ Reps α H ds vs
  | .frz ds, v => ∃ p vs, v = .ref p ∧ SqF K H p vs ∧ Reps α H ds vs
  | .ref k, v => ∃ a, α[k]? = some a ∧ v = .ref a
def Reps (α : List Addr) (H : Hp) : List D → List V → Prop
  | [], vs => vs = []
  | d :: ds, vs => ∃ v r, vs = v :: r ∧ Rep α H d v ∧ Reps α H ds r
end
end rep

/-- later: more objects, the tuples stand -/
structure Le (K : PySem.W.Frag) (α : List Addr) (H : Hp) (α' : List Addr) (H' : Hp) : Prop where
  pre : ∃ g, α' = α ++ g
  tup : ∀ p vs, SqT K H p vs → SqT K H' p vs
  frz : ∀ p vs, SqF K H p vs → SqF K H' p vs
theorem Le.refl {K : PySem.W.Frag} {α : List Addr} {H : Hp} : Le K α H α H := ⟨⟨[], by simp⟩, fun _ _ h => h, fun _ _ h => h⟩
theorem Le.trans {K : PySem.W.Frag} {α β γ : List Addr} {H H1 H2 : Hp} (a : Le K α H β H1) (b : Le K β H1 γ H2) : Le K α H γ H2 := by
  obtain ⟨g, rfl⟩ := a.pre
  obtain ⟨g', rfl⟩ := b.pre
  exact ⟨⟨g ++ g', by rw [List.append_assoc]⟩, fun p vs h => b.tup p vs (a.tup p vs h), fun p vs h => b.frz p vs (a.frz p vs h)⟩

section
variable {K : PySem.W.Frag} {α α' : List Addr} {H H' : Hp}
mutual
theorem Rep.mono (le : Le K α H α' H') : ∀ {d : D} {v : V}, Rep K α H d v → Rep K α' H' d v
  | .non, v, h => by simpa only [Rep] using h
  | .bl b, v, h => by simpa only [Rep] using h
  | .int i, v, h => by simpa only [Rep] using h
  | .str s, v, h => by simpa only [Rep] using h
  | .tup ds, v, h => by
    simp only [Rep] at h ⊢
    obtain ⟨p, vs, e, q, r⟩ := h
    exact ⟨p, vs, e, le.tup p vs q, Reps.mono le r⟩
  | .frz ds, v, h => by
    simp only [Rep] at h ⊢
    obtain ⟨p, vs, e, q, r⟩ := h
    exact ⟨p, vs, e, le.frz p vs q, Reps.mono le r⟩
  | .ref k, v, h => by
    simp only [Rep] at h ⊢
    obtain ⟨a, e, q⟩ := h
    obtain ⟨g, rfl⟩ := le.pre
    exact ⟨a, by rw [List.getElem?_append_left (List.getElem?_eq_some_iff.mp e).1]; exact e, q⟩
theorem Reps.mono (le : Le K α H α' H') : ∀ {ds : List D} {vs : List V}, Reps K α H ds vs → Reps K α' H' ds vs
  | [], vs, h => by simpa only [Reps] using h
  | d :: ds, vs, h => by
    simp only [Reps] at h ⊢
    obtain ⟨v, r, e, q, t⟩ := h
    exact ⟨v, r, e, Rep.mono le q, Reps.mono le t⟩
end
end

mutual
def bnd (n : Nat) : D → Prop
  | .tup ds => bnds n ds
  | .frz ds => bnds n ds
  | .ref k => k < n
  | _ => True
def bnds (n : Nat) : List D → Prop
  | [] => True
  | d :: ds => bnd n d ∧ bnds n ds
end
mutual
theorem bnd_pure {n : Nat} : ∀ {d : D}, d.pure = true → bnd n d
  | .non, _ => by simp only [bnd]
  | .bl b, _ => by simp only [bnd]
  | .int i, _ => by simp only [bnd]
  | .str s, _ => by simp only [bnd]
  | .tup ds, h => by simp only [bnd]; exact bnds_pure (by simpa only [D.pure] using h)
  | .frz ds, h => by simp only [bnd]; exact bnds_pure (by simpa only [D.pure] using h)
  | .ref k, h => by simp [D.pure] at h
theorem bnds_pure {n : Nat} : ∀ {ds : List D}, D.pures ds = true → bnds n ds
  | [], _ => by simp only [bnds]
  | d :: ds, h => by
    simp only [D.pures, Bool.and_eq_true] at h
    simp only [bnds]
    exact ⟨bnd_pure h.1, bnds_pure h.2⟩
end
section
variable {K : PySem.W.Frag} {α β : List Addr} {H : Hp}
mutual
theorem Rep.bnd : ∀ {d : D} {v : V}, Rep K α H d v → bnd α.length d
  | .non, v, h => by simp only [IR.bnd]
  | .bl b, v, h => by simp only [IR.bnd]
  | .int i, v, h => by simp only [IR.bnd]
  | .str s, v, h => by simp only [IR.bnd]
  | .tup ds, v, h => by
    simp only [Rep] at h
    simp only [IR.bnd]
    obtain ⟨p, vs, e, q, r⟩ := h
    exact Reps.bnd r
  | .frz ds, v, h => by
    simp only [Rep] at h
    simp only [IR.bnd]
    obtain ⟨p, vs, e, q, r⟩ := h
    exact Reps.bnd r
  | .ref k, v, h => by
    simp only [Rep] at h
    simp only [IR.bnd]
    obtain ⟨a, e, q⟩ := h
    exact (List.getElem?_eq_some_iff.mp e).1
theorem Reps.bnd : ∀ {ds : List D} {vs : List V}, Reps K α H ds vs → bnds α.length ds
  | [], vs, h => by simp only [bnds]
  | d :: ds, vs, h => by
    simp only [Reps] at h
    simp only [bnds]
    obtain ⟨v, r, e, q, t⟩ := h
    exact ⟨Rep.bnd q, Reps.bnd t⟩
end
mutual
/-- fewer objects known, those that are spoken of among them -/
theorem Rep.cut {g : List Addr} (e0 : β = α ++ g) : ∀ {d : D} {v : V}, Rep K β H d v → bnd α.length d → Rep K α H d v
  | .non, v, h, _ => by simpa only [Rep] using h
  | .bl b, v, h, _ => by simpa only [Rep] using h
  | .int i, v, h, _ => by simpa only [Rep] using h
  | .str s, v, h, _ => by simpa only [Rep] using h
  | .tup ds, v, h, b => by
    simp only [Rep] at h ⊢
    simp only [IR.bnd] at b
    obtain ⟨p, vs, e, q, r⟩ := h
    exact ⟨p, vs, e, q, Reps.cut e0 r b⟩
  | .frz ds, v, h, b => by
    simp only [Rep] at h ⊢
    simp only [IR.bnd] at b
    obtain ⟨p, vs, e, q, r⟩ := h
    exact ⟨p, vs, e, q, Reps.cut e0 r b⟩
  | .ref k, v, h, b => by
    simp only [Rep] at h ⊢
    simp only [IR.bnd] at b
    obtain ⟨a, e, q⟩ := h
    subst e0
    exact ⟨a, by rw [List.getElem?_append_left b] at e; exact e, q⟩
theorem Reps.cut {g : List Addr} (e0 : β = α ++ g) : ∀ {ds : List D} {vs : List V}, Reps K β H ds vs → bnds α.length ds → Reps K α H ds vs
  | [], vs, h, _ => by simpa only [Reps] using h
  | d :: ds, vs, h, b => by
    simp only [Reps] at h ⊢
    simp only [bnds] at b
    obtain ⟨v, r, e, q, t⟩ := h
    exact ⟨v, r, e, Rep.cut e0 q b.1, Reps.cut e0 t b.2⟩
end
mutual
/-- data needs no objects -/
theorem Rep.any (γ : List Addr) : ∀ {d : D} {v : V}, d.pure = true → Rep K α H d v → Rep K γ H d v
  | .non, v, _, h => by simpa only [Rep] using h
  | .bl b, v, _, h => by simpa only [Rep] using h
  | .int i, v, _, h => by simpa only [Rep] using h
  | .str s, v, _, h => by simpa only [Rep] using h
  | .tup ds, v, p, h => by
    simp only [Rep] at h ⊢
    obtain ⟨a, vs, e, q, r⟩ := h
    exact ⟨a, vs, e, q, Reps.any γ (by simpa only [D.pure] using p) r⟩
  | .frz ds, v, p, h => by
    simp only [Rep] at h ⊢
    obtain ⟨a, vs, e, q, r⟩ := h
    exact ⟨a, vs, e, q, Reps.any γ (by simpa only [D.pure] using p) r⟩
  | .ref k, v, p, h => by simp [D.pure] at p
theorem Reps.any (γ : List Addr) : ∀ {ds : List D} {vs : List V}, D.pures ds = true → Reps K α H ds vs → Reps K γ H ds vs
  | [], vs, _, h => by simpa only [Reps] using h
  | d :: ds, vs, p, h => by
    simp only [Reps] at h ⊢
    simp only [D.pures, Bool.and_eq_true] at p
    obtain ⟨v, r, e, q, t⟩ := h
    exact ⟨v, r, e, Rep.any γ p.1 q, Reps.any γ p.2 t⟩
end
theorem Reps.length : ∀ {ds : List D} {vs : List V}, Reps K α H ds vs → ds.length = vs.length
  | [], vs, h => by simp only [Reps] at h; subst h; rfl
  | d :: ds, vs, h => by
    simp only [Reps] at h
    obtain ⟨v, r, rfl, q, t⟩ := h
    rw [List.length_cons, List.length_cons, Reps.length t]
theorem Reps.get : ∀ {ds : List D} {vs : List V} {i : Nat} {d : D}, Reps K α H ds vs → ds[i]? = some d → ∃ v, vs[i]? = some v ∧ Rep K α H d v
  | [], vs, i, d, h, e => by simp at e
  | c :: ds, vs, i, d, h, e => by
    simp only [Reps] at h
    obtain ⟨v, r, rfl, q, t⟩ := h
    cases i with
    | zero => simp at e; subst e; exact ⟨v, by simp, q⟩
    | succ i => simp at e; obtain ⟨u, hu, ru⟩ := Reps.get t e; exact ⟨u, by simpa using hu, ru⟩
theorem Reps.append : ∀ {ds es : List D} {vs us : List V}, Reps K α H ds vs → Reps K α H es us → Reps K α H (ds ++ es) (vs ++ us)
  | [], es, vs, us, h, h' => by simp only [Reps] at h; subst h; simpa using h'
  | d :: ds, es, vs, us, h, h' => by
    simp only [Reps] at h
    obtain ⟨v, r, rfl, q, t⟩ := h
    simp only [List.cons_append, Reps]
    exact ⟨v, r ++ us, rfl, q, Reps.append t h'⟩
theorem Reps.set : ∀ {ds : List D} {vs : List V} {d : D} {v : V} (i : Nat), Reps K α H ds vs → Rep K α H d v → Reps K α H (ds.set i d) (vs.set i v)
  | [], vs, d, v, i, h, r => by simp only [Reps] at h; subst h; simp [Reps]
  | c :: ds, vs, d, v, i, h, q => by
    simp only [Reps] at h
    obtain ⟨u, r, rfl, qu, t⟩ := h
    cases i with
    | zero => simp only [List.set_cons_zero, Reps]; exact ⟨v, r, rfl, q, t⟩
    | succ i => simp only [List.set_cons_succ, Reps]; exact ⟨u, r.set i v, rfl, qu, Reps.set i t q⟩
theorem Reps.take : ∀ {ds : List D} {vs : List V} (n : Nat), Reps K α H ds vs → Reps K α H (ds.take n) (vs.take n)
  | [], vs, n, h => by simp only [Reps] at h; subst h; simp [Reps]
  | d :: ds, vs, n, h => by
    simp only [Reps] at h
    obtain ⟨v, r, rfl, q, t⟩ := h
    cases n with
    | zero => simp [Reps]
    | succ n => simp only [List.take_succ_cons, Reps]; exact ⟨v, r.take n, rfl, q, Reps.take n t⟩
theorem Reps.drop : ∀ {ds : List D} {vs : List V} (n : Nat), Reps K α H ds vs → Reps K α H (ds.drop n) (vs.drop n)
  | [], vs, n, h => by simp only [Reps] at h; subst h; simp [Reps]
  | d :: ds, vs, n, h => by
    cases n with
    | zero => simpa using h
    | succ n =>
      simp only [Reps] at h
      obtain ⟨v, r, rfl, q, t⟩ := h
      simpa using Reps.drop n t
theorem Reps.one {d : D} {v : V} (h : Rep K α H d v) : Reps K α H [d] [v] := by
  simp only [Reps]; exact ⟨v, [], rfl, h, rfl⟩
end

section
variable (W : Wd)
def fields (W : Wd) (fs : List (String × D)) (vs : List V) : List (Str × V) := (fs.map fun p => W.fld p.1).zip vs
/-- keys -/
def kyK : KY → Key
  | .i n => .inl n
  | .s t => .inr (toStr t)
def okKY : KY → Prop
  | .i _ => True
  | .s t => okT t
/-- an error that is held: of the class at C, its dict at d -/
def exv (a C d : Addr) : HO := .ext fun h => ∃ (o : Obj) (vs : Array Value), h.get? a = some o ∧ o.cls = .ref C ∧ o.dict = some d ∧ o.data = .fields vs
def ObjRep (α : List Addr) (H : Hp) (a : Addr) : LO → Prop
  | .lst ds => ∃ vs, H a = some (.lst vs) ∧ Reps W.K α H ds vs
  | .dic kvs => (∀ p ∈ kvs, okKY p.1) ∧ ∃ vs, H a = some (.dK ((kvs.map fun p => kyK p.1).zip vs)) ∧ Reps W.K α H (kvs.map (·.2)) vs
  | .ins c fs => ∃ dx vs, H a = some (.ins (W.cl c) dx (fields W fs vs)) ∧ Reps W.K α H (fs.map (·.2)) vs
  | .err c v => ∃ dx y, H a = some (exv a (W.ec c) dx) ∧ H dx = some (.xd [(W.fld "value", y)]) ∧ Rep W.K α H v y
structure HCorr (α : List Addr) (h : IR.Heap) (H : Hp) : Prop where
  len : α.length = h.length
  nd : α.Nodup
  ob : ∀ (i : Nat) (o : LO) (a : Addr), h[i]? = some o → α[i]? = some a → ObjRep W α H a o
structure Corr (α : List Addr) (env : IR.Env) (h : IR.Heap) (σ : L2.St) (H : Hp) : Prop where
  hc : HCorr W α h H
  len : env.length = σ.length
  en : ∀ (i : Nat) (d : D), env[i]? = some (some d) → ∃ v, σ[i]? = some (some v) ∧ Rep W.K α H d v
end
section
variable {W : Wd} {α α' : List Addr} {h h' : IR.Heap} {H H' : Hp} {env env' : IR.Env} {σ σ' : L2.St}
theorem Corr.later (c : Corr W α env h σ H) (le : Le W.K α H α' H') (hc : HCorr W α' h' H') : Corr W α' env h' σ H' :=
  ⟨hc, c.len, fun i d e => let ⟨v, q, r⟩ := c.en i d e; ⟨v, q, r.mono le⟩⟩
theorem HCorr.at_ (c : HCorr W α h H) {k : Nat} {o : LO} (e : h[k]? = some o) : ∃ a, α[k]? = some a ∧ ObjRep W α H a o := by
  have hk : k < α.length := by rw [c.len]; exact (List.getElem?_eq_some_iff.mp e).1
  exact ⟨α[k], List.getElem?_eq_getElem hk, c.ob k o _ e (List.getElem?_eq_getElem hk)⟩
theorem map_pures {fs : List (String × D)} (h : (fs.all fun p => p.2.pure) = true) : D.pures (fs.map (·.2)) = true := by
  induction fs with
  | nil => rfl
  | cons p r ih =>
    simp only [List.all_cons, Bool.and_eq_true] at h
    simp only [List.map_cons, D.pures, Bool.and_eq_true]
    exact ⟨h.1, ih h.2⟩
theorem map_puresK {fs : List (KY × D)} (h : (fs.all fun p => p.2.pure) = true) : D.pures (fs.map (·.2)) = true := by
  induction fs with
  | nil => rfl
  | cons p r ih =>
    simp only [List.all_cons, Bool.and_eq_true] at h
    simp only [List.map_cons, D.pures, Bool.and_eq_true]
    exact ⟨h.1, ih h.2⟩
theorem ObjRep.any (γ : List Addr) {o : LO} {a : Addr} (p : o.pure = true) (r : ObjRep W α H a o) : ObjRep W γ H a o := by
  cases o with
  | lst ds => obtain ⟨vs, e, q⟩ := r; exact ⟨vs, e, q.any γ (by simpa only [LO.pure] using p)⟩
  | dic kvs => obtain ⟨ok, vs, e, q⟩ := r; exact ⟨ok, vs, e, q.any γ (map_puresK (by simpa only [LO.pure] using p))⟩
  | ins c fs => obtain ⟨dx, vs, e, q⟩ := r; exact ⟨dx, vs, e, q.any γ (map_pures (by simpa only [LO.pure] using p))⟩
  | err c v => obtain ⟨dx, y, e, e2, q⟩ := r; exact ⟨dx, y, e, e2, q.any γ (by simpa only [LO.pure] using p)⟩
def bndO (n : Nat) : LO → Prop
  | .lst ds => bnds n ds
  | .dic kvs => bnds n (kvs.map (·.2))
  | .ins _ fs => bnds n (fs.map (·.2))
  | .err _ v => IR.bnd n v
theorem ObjRep.bnd {o : LO} {a : Addr} (r : ObjRep W α H a o) : bndO α.length o := by
  cases o with
  | lst ds => obtain ⟨vs, e, q⟩ := r; exact q.bnd
  | dic kvs => obtain ⟨ok, vs, e, q⟩ := r; exact q.bnd
  | ins c fs => obtain ⟨dx, vs, e, q⟩ := r; exact q.bnd
  | err c v => obtain ⟨dx, y, e, e2, q⟩ := r; exact q.bnd
theorem ObjRep.cut {β g : List Addr} (e0 : β = α ++ g) {o : LO} {a : Addr} (r : ObjRep W β H a o) (b : bndO α.length o) : ObjRep W α H a o := by
  cases o with
  | lst ds => obtain ⟨vs, e, q⟩ := r; exact ⟨vs, e, q.cut e0 b⟩
  | dic kvs => obtain ⟨ok, vs, e, q⟩ := r; exact ⟨ok, vs, e, q.cut e0 b⟩
  | ins c fs => obtain ⟨dx, vs, e, q⟩ := r; exact ⟨dx, vs, e, q.cut e0 b⟩
  | err c v => obtain ⟨dx, y, e, e2, q⟩ := r; exact ⟨dx, y, e, e2, q.cut e0 b⟩
theorem agree_get : ∀ {h h' : IR.Heap} {i : Nat} {o : LO}, agree h h' = true → i < h.length → h'[i]? = some o → o.pure = true ∨ h[i]? = some o
  | [], h', i, o, _, hi, _ => by simp at hi
  | a :: as, [], i, o, e, _, _ => by simp [agree] at e
  | a :: as, b :: bs, i, o, e, hi, q => by
    simp only [agree, Bool.and_eq_true, Bool.or_eq_true] at e
    cases i with
    | zero =>
      simp at q; subst q
      rcases e.1 with p | p
      · exact .inl p
      · have := of_decide_eq_true p; subst this; exact .inr (by simp)
    | succ i =>
      simp at q
      have := agree_get (i := i) e.2 (by simpa using hi) q
      simpa using this
theorem agree_le : ∀ {h h' : IR.Heap}, agree h h' = true → h.length ≤ h'.length
  | [], h', _ => Nat.zero_le _
  | a :: as, [], e => by simp [agree] at e
  | a :: as, b :: bs, e => by
    simp only [agree, Bool.and_eq_true] at e
    simpa using agree_le e.2
/-- what stood before, read behind -/
theorem HCorr.cut (c : HCorr W α h H) (le : Le W.K α H α' H') (c' : HCorr W α' h' H') (ag : agree h h' = true) : HCorr W α (h'.take h.length) H' := by
  obtain ⟨g, e0⟩ := le.pre
  have hl := agree_le ag
  refine ⟨by rw [List.length_take, c.len]; omega, by have := c'.nd; rw [e0] at this; exact (List.nodup_append.mp this).1, fun i o a e1 e2 => ?_⟩
  have hi : i < h.length := by rw [← c.len]; exact (List.getElem?_eq_some_iff.mp e2).1
  rw [List.getElem?_take_of_lt hi] at e1
  have r := c'.ob i o a e1 (by rw [e0, List.getElem?_append_left (List.getElem?_eq_some_iff.mp e2).1]; exact e2)
  rcases agree_get ag hi e1 with p | p
  · exact r.any α p
  · exact r.cut e0 (c.ob i o a p e2).bnd
theorem gc_ok {d d2 : D} {v : V} {h2 : IR.Heap} (c : HCorr W α h H) (le : Le W.K α H α' H') (c' : HCorr W α' h' H') (r : Rep W.K α' H' d v) (e : gc h (.ok d h') = .ok d2 h2) :
    ∃ α2, Le W.K α H α2 H' ∧ HCorr W α2 h2 H' ∧ Rep W.K α2 H' d2 v := by
  simp only [gc] at e
  split at e
  · rename_i ag
    have cc := c.cut le c' ag
    have le0 : Le W.K α H α H' := ⟨⟨[], by simp⟩, le.tup, le.frz⟩
    split at e
    · rename_i hp
      cases e
      exact ⟨α, le0, cc, r.any α hp⟩
    · split at e
      · rename_i rr _
        split at e
        · rename_i hge
          split at e
          · rename_i o ho
            split at e
            · rename_i op
              cases e
              obtain ⟨a, ea, ro⟩ := c'.at_ ho
              obtain ⟨g, e0⟩ := le.pre
              refine ⟨α ++ [a], ⟨⟨[a], rfl⟩, le.tup, le.frz⟩, ⟨?_, ?_, fun i o1 b e1 e2 => ?_⟩, ?_⟩
              · rw [List.length_append, List.length_append, cc.len]; rfl
              · have nd := c'.nd
                rw [List.nodup_append]
                refine ⟨cc.nd, by simp, fun x hx y hy => ?_⟩
                simp at hy; subst hy
                rintro rfl
                obtain ⟨j, hj, ej⟩ := List.getElem_of_mem hx
                have e3 : α'[j]? = some x := by rw [e0, List.getElem?_append_left hj, List.getElem?_eq_getElem hj, ej]
                obtain ⟨k1, k2⟩ := List.getElem?_eq_some_iff.mp e3
                obtain ⟨k3, k4⟩ := List.getElem?_eq_some_iff.mp ea
                have := (List.getElem_inj nd).mp (k2.trans k4.symm)
                have : j < h.length := by rw [← c.len]; exact hj
                omega
              · by_cases hi : i < α.length
                · rw [List.getElem?_append_left hi] at e2
                  have hi2 : i < (h'.take h.length).length := by rw [← cc.len]; exact hi
                  rw [List.getElem?_append_left hi2] at e1
                  have q := cc.ob i o1 b e1 e2
                  have : Le W.K α H' (α ++ [a]) H' := ⟨⟨[a], rfl⟩, fun _ _ z => z, fun _ _ z => z⟩
                  cases o1 with
                  | lst ds => obtain ⟨vs, x1, x2⟩ := q; exact ⟨vs, x1, x2.mono this⟩
                  | dic kvs => obtain ⟨ok, vs, x1, x2⟩ := q; exact ⟨ok, vs, x1, x2.mono this⟩
                  | ins cc fs => obtain ⟨dx, vs, x1, x2⟩ := q; exact ⟨dx, vs, x1, x2.mono this⟩
                  | err cc v => obtain ⟨dx, y, x1, x3, x2⟩ := q; exact ⟨dx, y, x1, x3, x2.mono this⟩
                · have hi' : i = α.length := by
                    have := (List.getElem?_eq_some_iff.mp e2).1
                    simp at this; omega
                  subst hi'
                  rw [List.getElem?_append_right (Nat.le_refl _)] at e2
                  simp at e2; subst e2
                  rw [List.getElem?_append_right (by rw [cc.len]; exact Nat.le_refl _)] at e1
                  have z : α.length - (List.take h.length h').length = 0 := by rw [cc.len]; omega
                  rw [z] at e1
                  simp at e1; subst e1
                  exact ro.any _ op
              · simp only [Rep] at r ⊢
                obtain ⟨b, e1, e2⟩ := r
                rw [ea] at e1; cases e1
                exact ⟨a, by rw [← c.len]; simp, e2⟩
            · cases e; exact ⟨α', le, c', r⟩
          · cases e; exact ⟨α', le, c', r⟩
        · rename_i hlt
          cases e
          obtain ⟨g, e0⟩ := le.pre
          exact ⟨α, le0, cc, r.cut e0 (by simp only [IR.bnd]; rw [c.len]; omega)⟩
      · cases e; exact ⟨α', le, c', r⟩
  · cases e; exact ⟨α', le, c', r⟩
theorem gcB_ok {b b2 : Bool} {h2 : IR.Heap} (c : HCorr W α h H) (le : Le W.K α H α' H') (c' : HCorr W α' h' H') (e : gcB h (.ok b h') = .ok b2 h2) :
    b2 = b ∧ ∃ α2, Le W.K α H α2 H' ∧ HCorr W α2 h2 H' := by
  simp only [gcB] at e
  split at e
  · rename_i ag
    cases e
    exact ⟨rfl, α, ⟨⟨[], by simp⟩, le.tup, le.frz⟩, c.cut le c' ag⟩
  · cases e; exact ⟨rfl, α', le, c'⟩
end
end IR

/-! ### readings -/
namespace L2
open PySem
theorem PE.imp {X : Cx} {e : Expr} {t t' : TE} (p : PE X e t) (i : ∀ σ H Q, t' σ H Q → t σ H Q) : PE X e t' := ⟨fun pins s σ H Q I h => p.run pins s σ H Q I (i σ H Q h)⟩
theorem PT.imp {X : Cx} {e : Expr} {t t' : TT} (p : PT X e t) (i : ∀ σ H Q, t' σ H Q → t σ H Q) : PT X e t' := ⟨fun pins s σ H Q I h => p.run pins s σ H Q I (i σ H Q h)⟩
theorem PW.imp {X : Cx} {e : Expr} {t t' : TT} (p : PW X e t) (i : ∀ σ H Q, t' σ H Q → t σ H Q) : PW X e t' := ⟨fun whole pins s σ H Q I h => p.run whole pins s σ H Q I (i σ H Q h)⟩
theorem PA.imp {X : Cx} {es : List Expr} {t t' : TA} (p : PA X es t) (i : ∀ σ H Q, t' σ H Q → t σ H Q) : PA X es t' := ⟨fun pos pins s σ H Q I h => p.run pos pins s σ H Q I (i σ H Q h)⟩
theorem PS.imp {X : Cx} {st : Stmt} {t t' : TS} (p : PS X st t) (i : ∀ D σ H, t' D σ H → t D σ H) : PS X st t' := ⟨fun pins s σ H D I h => p.run pins s σ H D I (i D σ H h)⟩
theorem PSs.imp {X : Cx} {sts : List Stmt} {t t' : TS} (p : PSs X sts t) (i : ∀ D σ H, t' D σ H → t D σ H) : PSs X sts t' := ⟨fun pins s σ H D I h => p.run pins s σ H D I (i D σ H h)⟩
end L2
namespace IR
open PySem PySem.Spec PyProof.Rows L2
section
variable (W : Wd)
/-- what is wished of an error (class c, value d) from (α, H) on -/
def wishX (E : XK) (α : List Addr) (H : Hp) (c : Nat) (d : D) (h' : IR.Heap) : Prop :=
  ∀ α' H' dx v, Le W.K α H α' H' → HCorr W α' h' H' → Rep W.K α' H' d v → H' dx = some (.xd [(W.fld "value", v)]) → E (.ref (W.ec c)) (some dx) H'
/-- an outcome is as wished -/
def Run {β γ : Type} (R : List Addr → Hp → β → γ → Prop) (E : XK) (α : List Addr) (H : Hp) (Q : γ → Hp → Prop) : Res β → Prop
  | .ok b h' => ∀ α' H' c, Le W.K α H α' H' → HCorr W α' h' H' → R α' H' b c → Q c H'
  | .exc c d h' => wishX W E α H c d h'
  | .bad => False
def semG {β γ : Type} (R : List Addr → Hp → β → γ → Prop) (Wx : WX) (f : IR.Env → IR.Heap → Res β) (σ : L2.St) (H : Hp) (Q : γ → Hp → Prop) : Prop :=
  ∃ α env h, Corr W α env h σ H ∧ Run W R (WE Wx σ) α H Q (f env h)
abbrev RV : List Addr → Hp → D → V → Prop := fun α H d v => Rep W.K α H d v
abbrev RL : List Addr → Hp → List D → List V → Prop := fun α H d v => Reps W.K α H d v
abbrev RI {β : Type} : List Addr → Hp → β → β → Prop := fun _ _ b c => c = b
abbrev semE (Wx : WX) (f : SE) : TE := semG W (RV W) Wx f
abbrev semT (Wx : WX) (f : ST) : TT := semG W RI Wx f
abbrev semA (Wx : WX) (f : SA) : TA := semG W (RL W) Wx f
abbrev semO (Wx : WX) (f : SO) : TO := semG W RI Wx f
end
section
variable {W : Wd} {Wx : WX} {α α' : List Addr} {σ : L2.St} {H H' : Hp} {env : IR.Env} {h h' : IR.Heap}
theorem wishX.later {E : XK} {c : Nat} {d : D} (w : wishX W E α H c d h) (le : Le W.K α H α' H') : wishX W E α' H' c d h :=
  fun β H2 dx v le2 hc r e => w β H2 dx v (le.trans le2) hc r e
section
variable {E : XK} {β γ δ ε : Type} {R : List Addr → Hp → β → γ → Prop} {R' : List Addr → Hp → δ → ε → Prop} {Q : ε → Hp → Prop} {P : γ → Hp → Prop}
theorem Run.later {Q : γ → Hp → Prop} {r : Res β} (k : Run W R E α H Q r) (le : Le W.K α H α' H') : Run W R E α' H' Q r := by
  cases r with
  | ok b h' => exact fun β H2 c le2 hc r => k β H2 c (le.trans le2) hc r
  | exc c d h' => exact wishX.later k le
  | bad => exact k
/-- f, then g: from what is wished of both to what is wished of f -/
theorem bindR {f : IR.Env → IR.Heap → Res β} {g : β → IR.Heap → Res δ} (c : Corr W α env h σ H) (q : Run W R' (WE Wx σ) α H Q ((f env h).bind g))
    (k : ∀ α' b h1 v H1, Le W.K α H α' H1 → Corr W α' env h1 σ H1 → R α' H1 b v → Run W R' (WE Wx σ) α' H1 Q (g b h1) → P v H1) : semG W R Wx f σ H P := by
  refine ⟨α, env, h, c, ?_⟩
  cases e : f env h with
  | bad => rw [e] at q; exact q
  | exc c d h' => rw [e] at q; exact q
  | ok b h1 =>
    rw [e] at q
    exact fun α' H1 v le hc r => k α' b h1 v H1 le (c.later le hc) r (Run.later q le)
theorem bindG {f : IR.Env → IR.Heap → Res β} {g : IR.Env → β → IR.Heap → Res δ} (q : semG W R' Wx (fun env h => (f env h).bind (g env)) σ H Q)
    (k : ∀ α env b h1 v H1, Corr W α env h1 σ H1 → R α H1 b v → Run W R' (WE Wx σ) α H1 Q (g env b h1) → P v H1) : semG W R Wx f σ H P := by
  obtain ⟨α, env, h, c, q⟩ := q
  exact bindR (g := g env) c q fun α' b h1 v H1 _ c r q => k α' env b h1 v H1 c r q
/-- at an end -/
theorem Run.done {b : β} {v : γ} {Q : γ → Hp → Prop} (k : Run W R E α H Q (.ok b h)) (hc : HCorr W α h H) (r : R α H b v) : Q v H := k α H v Le.refl hc r
theorem Run.lift {o : Option β} {g : β → IR.Heap → Res δ} (q : Run W R' E α H Q ((liftO o h).bind g)) : ∃ b, o = some b ∧ Run W R' E α H Q (g b h) := by
  cases o with
  | none => exact q.elim
  | some b => exact ⟨b, rfl, q⟩
theorem Run.lift1 {o : Option β} {Q : γ → Hp → Prop} (q : Run W R E α H Q (liftO o h)) : ∃ b, o = some b ∧ Run W R E α H Q (.ok b h) := by
  cases o with
  | none => exact q.elim
  | some b => exact ⟨b, rfl, q⟩
theorem Run.ite {p : Prop} [Decidable p] {r : Res β} {Q : γ → Hp → Prop} (q : Run W R E α H Q (if p then r else .bad)) : p ∧ Run W R E α H Q r := by
  by_cases hp : p
  · rw [if_pos hp] at q; exact ⟨hp, q⟩
  · rw [if_neg hp] at q; exact q.elim
/-- behind gc -/
theorem Run.gc {Q : V → Hp → Prop} {r : Res D} (c : HCorr W α h H) (q : Run W (RV W) E α H Q (gc h r)) : Run W (RV W) E α H Q r := by
  cases r with
  | bad => exact q
  | exc c d h' => exact q
  | ok d h' =>
    intro α' H' v le hc rv
    cases e : IR.gc h (.ok d h') with
    | bad => rw [e] at q; exact q.elim
    | exc c d h' => simp only [IR.gc] at e; repeat (first | cases e | split at e)
    | ok d2 h2 =>
      rw [e] at q
      obtain ⟨α2, le2, hc2, rv2⟩ := gc_ok c le hc rv e
      exact q α2 H' v le2 hc2 rv2
theorem Run.gcB {Q : Bool → Hp → Prop} {r : Res Bool} (c : HCorr W α h H) (q : Run W RI E α H Q (gcB h r)) : Run W RI E α H Q r := by
  cases r with
  | bad => exact q
  | exc c d h' => exact q
  | ok d h' =>
    intro α' H' v le hc rv
    cases e : IR.gcB h (.ok d h') with
    | bad => rw [e] at q; exact q.elim
    | exc c d h' => simp only [IR.gcB] at e; split at e <;> cases e
    | ok d2 h2 =>
      rw [e] at q
      obtain ⟨e2, α2, le2, hc2⟩ := gcB_ok c le hc e
      exact q α2 H' v le2 hc2 (rv.trans e2.symm)
end

/-! an operation by values -/
def O2S (W : Wd) (op : O2) (r : R2) : Prop := ∀ E α H h x y v w Q, HCorr W α h H → Rep W.K α H x v → Rep W.K α H y w → Run W (RV W) E α H Q (op x y h) → r v w H Q
def O1S (W : Wd) (op : O1) (r : V → Hp → VK → Prop) : Prop := ∀ E α H h x v Q, HCorr W α h H → Rep W.K α H x v → Run W (RV W) E α H Q (op x h) → r v H Q
def OLS (W : Wd) (op : OL) (r : List V → Hp → VK → Prop) : Prop := ∀ E α H h xs vs Q, HCorr W α h H → Reps W.K α H xs vs → Run W (RV W) E α H Q (op xs h) → r vs H Q

variable {X : Cx} {pos : Pos} {a b c : Expr} {fa fb fc : SE}
theorem sem_2 {op : O2} {r : R2} (hs : O2S W op r) {Q : VK} (q : semE W Wx (e_2 op fa fb) σ H Q) : tOp r (semE W Wx fa) (semE W Wx fb) σ H Q :=
  bindG (g := fun env x h1 => (fb env h1).bind fun y h2 => op x y h2) q fun α env x h1 v H1 c rx k => bindR (g := fun y h2 => op x y h2) c k fun α2 y h2 w H2 le c2 ry k2 => hs (WE Wx σ) α2 H2 h2 x y v w Q c2.hc (rx.mono le) ry k2
theorem sem_1 {op : O1} {r : V → Hp → VK → Prop} (hs : O1S W op r) {Q : VK} (q : semE W Wx (e_1 op fa) σ H Q) : tUn r (semE W Wx fa) σ H Q :=
  bindG (g := fun env x h1 => op x h1) q fun α env x h1 v H1 c rx k => hs (WE Wx σ) α H1 h1 x v Q c.hc rx k
theorem q_2 {op' : Operator} {op : O2} {r : R2} (ho : OpR X (binaryOp op') r) (hs : O2S W op r) (ha : PE X a (semE W Wx fa)) (hb : PE X b (semE W Wx fb)) : PE X (.BinOp a op' b pos) (semE W Wx (e_2 op fa fb)) :=
  (pe_op ho ha hb).imp fun _ _ _ q => sem_2 hs q
theorem q_1 {op' : UnaryOp} {op : O1} {r : V → Hp → VK → Prop} (ho : UnR X (unaryOp op') r) (hs : O1S W op r) (ha : PE X a (semE W Wx fa)) : PE X (.UnaryOp op' a pos) (semE W Wx (e_1 op fa)) :=
  (pe_un ho ha).imp fun _ _ _ q => sem_1 hs q
theorem q_cmp {op' : CmpOp} {op : O2} {r : R2} (ho : OpR X (compareOp op') r) (hs : O2S W op r) (ha : PE X a (semE W Wx fa)) (hb : PE X b (semE W Wx fb)) (hm : behindInMarks op' b = false) : PE X (.Compare a [op'] [b] pos) (semE W Wx (e_2 op fa fb)) :=
  (pe_cmpR ho ha hb hm).imp fun _ _ _ q => sem_2 hs q
theorem rep_bl {K : PySem.W.Frag} {x : D} {v : V} {k : Bool} (e : asB x = some k) (r : Rep K α H x v) : v = .bl k := by
  cases x with
  | bl b => cases e; simpa only [Rep] using r
  | _ => cases e
/-- a value that is a bool, as a test -/
theorem sem_tb {t : TE} {f : SE} (ht : ∀ σ H Q, semE W Wx f σ H Q → t σ H Q) {Q : Bool → Hp → Prop} (q : semT W Wx (t_b f) σ H Q) : tTest t σ H Q :=
  ht _ _ _ (bindG (g := fun _ x h1 => liftO (asB x) h1) q fun α env x h1 v H1 c rx k => by
    obtain ⟨b, e, k⟩ := Run.lift1 k
    exact ⟨b, rep_bl e rx, Run.done k c.hc rfl⟩)
theorem qt_cmp {op' : CmpOp} {op : O2} {r : R2} (ho : OpR X (compareOp op') r) (hs : O2S W op r) (ha : PE X a (semE W Wx fa)) (hb : PE X b (semE W Wx fb)) (hm : behindInMarks op' b = false) : PT X (.Compare a [op'] [b] pos) (semT W Wx (t_b (e_2 op fa fb))) :=
  (pt_cmpR ho ha hb hm).imp fun _ _ _ q => sem_tb (fun _ _ _ q => sem_2 hs q) q
theorem qt_val (ha : PE X a (semE W Wx fa)) (he : ∀ whole, isTrue a X.env whole = (do let v ← whole; standAt a.pos; holding [v] (truthy v)) := by intro _; rfl) : PT X a (semT W Wx (t_b fa)) :=
  (pt_val ha he).imp fun _ _ _ q => sem_tb (fun _ _ _ q => q) q

/-! names, constants -/
theorem sem_var {i : Nat} {Q : VK} (q : semE W Wx (e_var i) σ H Q) : tVar i σ H Q := by
  obtain ⟨α, env, h, c, k⟩ := q
  simp only [e_var] at k
  split at k
  · rename_i d e
    obtain ⟨v, ev, rv⟩ := c.en i _ e
    exact ⟨v, ev, Run.done k c.hc rv⟩
  · exact k.elim
theorem q_var (i : Nat) {x : Str} (hN : X.N[i]? = some x := by rfl) (hv : Vis X.env.scope x := by first | exact Or.inl rfl | exact Or.inr (Or.inl rfl) | exact Or.inr (Or.inr rfl)) (hd : (x == ("__debug__" : Str)) = false := by decide)
    (hcd : (x == ("__classdict__" : Str)) = false := by decide) : PE X (.Name x pos) (semE W Wx (e_var i)) := (pe_var hN hv hd hcd).imp fun _ _ _ q => sem_var q
theorem sem_c {d : D} {v : V} {Q : VK} (hr : ∀ α H, Rep W.K α H d v) (q : semE W Wx (e_c d) σ H Q) : tC v σ H Q := by
  obtain ⟨α, env, h, c, k⟩ := q
  exact Run.done (v := v) k c.hc (hr α H)
theorem q_int {i : Int} {j} : PE X (.Constant (.int i) j pos) (semE W Wx (e_c (.int i))) := pe_int.imp fun _ _ _ q => sem_c (fun _ _ => by simp only [Rep]) q
theorem q_bl {b : Bool} {j} : PE X (.Constant (.bool b) j pos) (semE W Wx (e_c (.bl b))) := pe_bl.imp fun _ _ _ q => sem_c (fun _ _ => by simp only [Rep]) q
theorem q_non {j} : PE X (.Constant .none j pos) (semE W Wx (e_c .non)) := pe_non.imp fun _ _ _ q => sem_c (fun _ _ => by simp only [Rep]) q
theorem q_str {x : Str} (s : Txt) {j} (e : x = toStr s := by rfl) (ho : okT s := by decide) : PE X (.Constant (.str x) j pos) (semE W Wx (e_c (.str s))) := pe_str.imp fun _ _ _ q => sem_c (fun _ _ => by simp only [Rep]; rw [e]; exact ⟨rfl, ho⟩) q
/-- a constant of the top: an int, a text, a tuple that is written -/
theorem q_glob {x : Str} {v : V} {u : Value} {d : D} (hg : Gl X x) (hm : X.mg x = some u) (r : RelV v u) (hr : ∀ α H, Rep W.K α H d v) (hd : (x == ("__debug__" : Str)) = false := by decide) : PE X (.Name x pos) (semE W Wx (e_c d)) :=
  (pe_glob hg hm r hd).imp fun _ _ _ q => sem_c hr q

/-! tests -/
theorem sem_tnot {t : ST} {Q : Bool → Hp → Prop} (q : semT W Wx (t_not t) σ H Q) : tNot (semT W Wx t) σ H Q :=
  bindG (g := fun _ b h1 => Res.ok (!b) h1) q fun α env x h1 v H1 c rx k => by cases rx; exact Run.done k c.hc rfl
theorem sem_tand {t u : ST} {Q : Bool → Hp → Prop} (q : semT W Wx (t_and t u) σ H Q) : tAnd (semT W Wx t) (semT W Wx u) σ H Q :=
  bindG (g := fun env b h1 => if b then u env h1 else .ok false h1) q fun α env x h1 v H1 c rx k => by
    cases rx
    cases x with
    | false => exact Run.done k c.hc rfl
    | true => exact iteT ⟨α, env, h1, c, k⟩
theorem sem_tor {t u : ST} {Q : Bool → Hp → Prop} (q : semT W Wx (t_or t u) σ H Q) : tOr (semT W Wx t) (semT W Wx u) σ H Q :=
  bindG (g := fun env b h1 => if b then .ok true h1 else u env h1) q fun α env x h1 v H1 c rx k => by
    cases rx
    cases x with
    | true => exact Run.done k c.hc rfl
    | false => exact iteF ⟨α, env, h1, c, k⟩
variable {tA tB : ST} {rest : List Expr}
theorem qt_not (ha : PT X a (semT W Wx tA)) : PT X (.UnaryOp .Not a pos) (semT W Wx (t_not tA)) := (pt_not ha).imp fun _ _ _ q => sem_tnot q
theorem qw_and1 (ha : PT X a (semT W Wx tA)) : PW X (.BoolOp .And [a] pos) (semT W Wx tA) := pw_and1 ha
theorem qw_or1 (ha : PT X a (semT W Wx tA)) : PW X (.BoolOp .Or [a] pos) (semT W Wx tA) := pw_or1 ha
theorem qw_and (ha : PT X a (semT W Wx tA)) (hb : PW X (.BoolOp .And (b :: rest) pos) (semT W Wx tB)) : PW X (.BoolOp .And (a :: b :: rest) pos) (semT W Wx (t_and tA tB)) := (pw_and ha hb).imp fun _ _ _ q => sem_tand q
theorem qw_or (ha : PT X a (semT W Wx tA)) (hb : PW X (.BoolOp .Or (b :: rest) pos) (semT W Wx tB)) : PW X (.BoolOp .Or (a :: b :: rest) pos) (semT W Wx (t_or tA tB)) := (pw_or ha hb).imp fun _ _ _ q => sem_tor q
theorem sem_eand {Q : VK} (q : semE W Wx (e_and fa fb) σ H Q) : tAndV (semE W Wx fa) (semE W Wx fb) σ H Q :=
  bindG (g := fun env x h1 => (liftO (asB x) h1).bind fun k h1 => if k then fb env h1 else .ok (.bl false) h1) q fun α env x h1 v H1 c rx k => by
    obtain ⟨b, e, k⟩ := Run.lift k
    refine ⟨b, rep_bl e rx, ?_⟩
    cases b with
    | false => exact Run.done (v := V.bl false) k c.hc (by simp only [RV, Rep])
    | true => exact iteT ⟨α, env, h1, c, k⟩
theorem sem_eor {Q : VK} (q : semE W Wx (e_or fa fb) σ H Q) : tOrV (semE W Wx fa) (semE W Wx fb) σ H Q :=
  bindG (g := fun env x h1 => (liftO (asB x) h1).bind fun k h1 => if k then .ok (.bl true) h1 else fb env h1) q fun α env x h1 v H1 c rx k => by
    obtain ⟨b, e, k⟩ := Run.lift k
    refine ⟨b, rep_bl e rx, ?_⟩
    cases b with
    | true => exact Run.done (v := V.bl true) k c.hc (by simp only [RV, Rep])
    | false => exact iteF ⟨α, env, h1, c, k⟩
theorem sem_enot {Q : VK} (q : semE W Wx (e_not fa) σ H Q) : tNotV (semE W Wx fa) σ H Q :=
  bindG (g := fun env x h1 => (liftO (asB x) h1).bind fun k h1 => Res.ok (D.bl (!k)) h1) q fun α env x h1 v H1 c rx k => by
    obtain ⟨b, e, k⟩ := Run.lift k
    exact ⟨b, rep_bl e rx, Run.done (v := V.bl (!b)) k c.hc (by simp only [RV, Rep])⟩
theorem q_and1 (ha : PE X a (semE W Wx fa)) {op} : PE X (.BoolOp op [a] pos) (semE W Wx fa) := pe_one ha
theorem q_and (ha : PE X a (semE W Wx fa)) (hb : PE X (.BoolOp .And (b :: rest) pos) (semE W Wx fb)) : PE X (.BoolOp .And (a :: b :: rest) pos) (semE W Wx (e_and fa fb)) := (pe_and ha hb).imp fun _ _ _ q => sem_eand q
theorem q_or (ha : PE X a (semE W Wx fa)) (hb : PE X (.BoolOp .Or (b :: rest) pos) (semE W Wx fb)) : PE X (.BoolOp .Or (a :: b :: rest) pos) (semE W Wx (e_or fa fb)) := (pe_or ha hb).imp fun _ _ _ q => sem_eor q
theorem q_not (ha : PE X a (semE W Wx fa)) : PE X (.UnaryOp .Not a pos) (semE W Wx (e_not fa)) := (pe_not ha).imp fun _ _ _ q => sem_enot q
theorem sem_if {t : ST} {Q : VK} (q : semE W Wx (e_if t fa fb) σ H Q) : tIf (semT W Wx t) (semE W Wx fa) (semE W Wx fb) σ H Q :=
  bindG (g := fun env k h1 => if k then fa env h1 else fb env h1) q fun α env x h1 v H1 c rx k => by
    cases rx
    cases x with
    | true => exact iteT ⟨α, env, h1, c, k⟩
    | false => exact iteF ⟨α, env, h1, c, k⟩
theorem q_if {t : ST} (hc : PT X c (semT W Wx t)) (ha : PE X a (semE W Wx fa)) (hb : PE X b (semE W Wx fb)) : PE X (.IfExp c a b pos) (semE W Wx (e_if t fa fb)) := (pe_ifExp hc ha hb).imp fun _ _ _ q => sem_if q
/-! chains -/
theorem sem_chain {op op' : O2} {r r' : R2} (hs : O2S W op r) (hs' : O2S W op' r') {Q : VK} (q : semE W Wx (e_chain op op' fa fb fc) σ H Q) : tChain r r' (semE W Wx fa) (semE W Wx fb) (semE W Wx fc) σ H Q :=
  bindG (g := fun env x h1 => (fb env h1).bind fun y h2 => (op x y h2).bind fun z h3 => (liftO (asB z) h3).bind fun k h3 => if k then (fc env h3).bind fun w h4 => op' y w h4 else .ok (.bl false) h3) q fun α env x h1 v H1 c rx k =>
    bindR (g := fun y h2 => (op x y h2).bind fun z h3 => (liftO (asB z) h3).bind fun k h3 => if k then (fc env h3).bind fun w h4 => op' y w h4 else .ok (.bl false) h3) c k fun α2 y h2 w H2 le c2 ry k2 => by
      refine hs (WE Wx σ) α2 H2 h2 x y v w _ c2.hc (rx.mono le) ry ?_
      cases e : op x y h2 with
      | bad => rw [e] at k2; exact k2
      | exc c d h' => rw [e] at k2; exact k2
      | ok z h3 =>
        rw [e] at k2
        intro α3 H3 u le3 hc3 ru
        have k2 := Run.later k2 le3
        simp only [Res.bind_ok] at k2
        obtain ⟨b, eb, k2⟩ := Run.lift k2
        refine ⟨b, rep_bl eb ru, ?_⟩
        cases b with
        | false => exact Run.done (v := V.bl false) k2 hc3 (by simp only [RV, Rep])
        | true =>
          refine iteT ?_
          exact bindR (g := fun w h4 => op' y w h4) (c2.later le3 hc3) k2 fun α4 y4 h4 w4 H4 le4 c4 ry4 k4 => hs' (WE Wx σ) α4 H4 h4 y y4 w w4 Q c4.hc ((ry.mono le3).mono le4) ry4 k4
theorem q_chain {o1 o2 : CmpOp} {op op' : O2} {r r' : R2} (ho : OpR X (compareOp o1) r) (ho' : OpR X (compareOp o2) r') (hs : O2S W op r) (hs' : O2S W op' r') (ha : PE X a (semE W Wx fa)) (hb : PE X b (semE W Wx fb)) (hc : PE X c (semE W Wx fc)) (hm : lastMarks [o1, o2] [b, c] = false := by rfl) : PE X (.Compare a [o1, o2] [b, c] pos) (semE W Wx (e_chain op op' fa fb fc)) :=
  (pe_chain ho ho' ha hb hc hm).imp fun _ _ _ q => sem_chain hs hs' q
theorem qt_chain {o1 o2 : CmpOp} {op op' : O2} {r r' : R2} (ho : OpR X (compareOp o1) r) (ho' : OpR X (compareOp o2) r') (hs : O2S W op r) (hs' : O2S W op' r') (ha : PE X a (semE W Wx fa)) (hb : PE X b (semE W Wx fb)) (hc : PE X c (semE W Wx fc)) (hm : lastMarks [o1, o2] [b, c] = false := by rfl) : PT X (.Compare a [o1, o2] [b, c] pos) (semT W Wx (t_b (e_chain op op' fa fb fc))) :=
  (pt_chain ho ho' ha hb hc hm).imp fun _ _ _ q => sem_tb (fun _ _ _ q => sem_chain hs hs' q) q

/-! arguments, displays, calls of built-ins -/
variable {es : List Expr} {ga gb : SA}
theorem qa_nil : PA X [] (semA W Wx a_nil) := pa_nil.imp fun σ H Q q => by
  obtain ⟨α, env, h, c, k⟩ := q
  exact Run.done (v := ([] : List V)) k c.hc (by simp only [RL, Reps])
theorem qa_cons (ha : PE X a (semE W Wx fa)) (hr : PA X es (semA W Wx ga)) (hs : starEach (a :: es) X.env = (false, eval a X.env) :: starEach es X.env := by rfl) : PA X (a :: es) (semA W Wx (a_cons fa ga)) :=
  (pa_cons ha hr hs).imp fun σ H Q q => bindG (g := fun env x h1 => (ga env h1).bind fun xs h2 => Res.ok (x :: xs) h2) q fun α env x h1 v H1 c rx k =>
    bindR (g := fun xs h2 => Res.ok (x :: xs) h2) c k fun α2 xs h2 vs H2 le c2 rxs k2 => Run.done (v := v :: vs) k2 c2.hc (by simp only [RL, Reps]; exact ⟨v, vs, rfl, rx.mono le, rxs⟩)
/-- a heap that keeps what was tracked -/
theorem ext_le {H' : Hp} (k : ∀ q u, H q = some u → H' q = some u) : Le W.K α H α H' := by
  refine ⟨⟨[], by simp⟩, fun q ws z => ?_, fun q ws z => ?_⟩
  · rcases z with z | z
    · rcases z with z | ⟨o, z⟩
      · exact .inl (.inl (k _ _ z))
      · exact .inl (.inr ⟨o, k _ _ z⟩)
    · exact .inr z
  · rcases z with ⟨o, z⟩ | z
    · exact .inl ⟨o, k _ _ z⟩
    · exact .inr z
theorem ext_ob {β : List Addr} {H' : Hp} {a : Addr} {o : LO} (k : ∀ q u, H q = some u → H' q = some u) (le : Le W.K α H β H') (r : ObjRep W α H a o) : ObjRep W β H' a o := by
  cases o with
  | lst ds => obtain ⟨ws, x1, x2⟩ := r; exact ⟨ws, k _ _ x1, x2.mono le⟩
  | dic kvs => obtain ⟨ok, ws, x1, x2⟩ := r; exact ⟨ok, ws, k _ _ x1, x2.mono le⟩
  | ins cc fs => obtain ⟨dx, ws, x1, x2⟩ := r; exact ⟨dx, ws, k _ _ x1, x2.mono le⟩
  | err cc v => obtain ⟨dx, y, x1, x3, x2⟩ := r; exact ⟨dx, y, k _ _ x1, k _ _ x3, x2.mono le⟩
theorem ext_hc {H' : Hp} (k : ∀ q u, H q = some u → H' q = some u) (hc : HCorr W α h H) : HCorr W α h H' := ⟨hc.len, hc.nd, fun i o a e1 e2 => ext_ob k (ext_le k) (hc.ob i o a e1 e2)⟩
theorem keep_upd {p : Addr} {o : HO} (hp : H p = none) : ∀ q u, H q = some u → upd H p o q = some u := fun q u z => by rw [upd_ne (ne_of_none z hp)]; exact z
theorem new_tup {p : Addr} {ds : List D} {vs : List V} (hp : H p = none) (hc : HCorr W α h H) (r : Reps W.K α H ds vs) : Le W.K α H α (upd H p (.tup vs)) ∧ HCorr W α h (upd H p (.tup vs)) ∧ Rep W.K α (upd H p (.tup vs)) (.tup ds) (.ref p) := by
  have le : Le W.K α H α (upd H p (.tup vs)) := ext_le (keep_upd hp)
  refine ⟨le, ext_hc (keep_upd hp) hc, ?_⟩
  simp only [Rep]
  exact ⟨p, vs, rfl, .inl (.inl upd_same), r.mono le⟩
theorem ObjRep.there {a : Addr} {o : LO} (r : ObjRep W α H a o) : H a ≠ none := by
  cases o with
  | lst ds => obtain ⟨ws, x1, x2⟩ := r; rw [x1]; simp
  | dic kvs => obtain ⟨ok, ws, x1, x2⟩ := r; rw [x1]; simp
  | ins cc fs => obtain ⟨dx, ws, x1, x2⟩ := r; rw [x1]; simp
  | err cc v => obtain ⟨dx, y, x1, x3, x2⟩ := r; rw [x1]; simp
theorem HCorr.fresh {p : Addr} (hc : HCorr W α h H) (hp : H p = none) : p ∉ α := fun hm => by
  obtain ⟨i, hi, e⟩ := List.getElem_of_mem hm
  have hi' : i < h.length := by rw [← hc.len]; exact hi
  exact (hc.ob i h[i] p (List.getElem?_eq_getElem hi') (by rw [List.getElem?_eq_getElem hi, e])).there hp
/-- a new object laid -/
theorem new_obj {p : Addr} {lo : LO} {H' : Hp} (hp : H p = none) (k : ∀ q u, H q = some u → H' q = some u) (hc : HCorr W α h H) (ro : ObjRep W (α ++ [p]) H' p lo) :
    Le W.K α H (α ++ [p]) H' ∧ HCorr W (α ++ [p]) (h ++ [lo]) H' ∧ Rep W.K (α ++ [p]) H' (.ref h.length) (.ref p) := by
  have le0 : Le W.K α H α H' := ext_le k
  have le : Le W.K α H (α ++ [p]) H' := ⟨⟨[p], rfl⟩, le0.tup, le0.frz⟩
  refine ⟨le, ⟨by rw [List.length_append, List.length_append, hc.len]; rfl, ?_, fun i o a e1 e2 => ?_⟩, ?_⟩
  · rw [List.nodup_append]
    refine ⟨hc.nd, by simp, fun x hx y hy => ?_⟩
    simp at hy; subst hy
    rintro rfl
    exact hc.fresh hp hx
  · by_cases hi : i < α.length
    · rw [List.getElem?_append_left hi] at e2
      rw [List.getElem?_append_left (by rw [← hc.len]; exact hi)] at e1
      exact ext_ob k le (hc.ob i o a e1 e2)
    · have hi' : i = α.length := by
        have := (List.getElem?_eq_some_iff.mp e2).1
        simp at this; omega
      subst hi'
      rw [List.getElem?_append_right (Nat.le_refl _)] at e2
      simp at e2; subst e2
      rw [List.getElem?_append_right (by rw [hc.len]; exact Nat.le_refl _)] at e1
      have z : α.length - h.length = 0 := by rw [hc.len]; omega
      rw [z] at e1
      simp at e1; subst e1
      exact ro
  · simp only [Rep]
    exact ⟨p, by rw [← hc.len]; simp, rfl⟩
theorem new_lst {p : Addr} {ds : List D} {vs : List V} (hp : H p = none) (hc : HCorr W α h H) (r : Reps W.K α H ds vs) :
    Le W.K α H (α ++ [p]) (upd H p (.lst vs)) ∧ HCorr W (α ++ [p]) (h ++ [.lst ds]) (upd H p (.lst vs)) ∧ Rep W.K (α ++ [p]) (upd H p (.lst vs)) (.ref h.length) (.ref p) := by
  have le0 : Le W.K α H α (upd H p (.lst vs)) := ext_le (keep_upd hp)
  exact new_obj hp (keep_upd hp) hc ⟨vs, upd_same, r.mono ⟨⟨[p], rfl⟩, le0.tup, le0.frz⟩⟩
/-- an object of ours is written -/
theorem write_obj {k : Nat} {a : Addr} {lo lo' : LO} {o' : HO} (hc : HCorr W α h H) (e : h[k]? = some lo) (ea : α[k]? = some a) (ro : ∀ {H'}, Le W.K α H α H' → H' a = some o' → ObjRep W α H' a lo') :
    Le W.K α H α (upd H a o') ∧ HCorr W α (h.set k lo') (upd H a o') := by
  have r0 := hc.ob k lo a e ea
  have nt : ∀ q ws, Rd H q (.tup ws) → q ≠ a := fun q ws z => by
    rintro rfl
    cases lo with
    | lst ds => obtain ⟨vs, x1, x2⟩ := r0; rcases z with z | ⟨o, z⟩ <;> (rw [x1] at z; cases z)
    | dic kvs => obtain ⟨ok, vs, x1, x2⟩ := r0; rcases z with z | ⟨o, z⟩ <;> (rw [x1] at z; cases z)
    | ins cc fs => obtain ⟨dx, vs, x1, x2⟩ := r0; rcases z with z | ⟨o, z⟩ <;> (rw [x1] at z; cases z)
    | err cc v => obtain ⟨dx, y, x1, x3, x2⟩ := r0; rcases z with z | ⟨o, z⟩ <;> (rw [x1] at z; cases z)
  have nx : ∀ q fs, H q = some (.xd fs) → q ≠ a := fun q fs z => by
    rintro rfl
    cases lo with
    | lst ds => obtain ⟨vs, x1, x2⟩ := r0; rw [x1] at z; cases z
    | dic kvs => obtain ⟨ok, vs, x1, x2⟩ := r0; rw [x1] at z; cases z
    | ins cc fs => obtain ⟨dx, vs, x1, x2⟩ := r0; rw [x1] at z; cases z
    | err cc v => obtain ⟨dx, y, x1, x3, x2⟩ := r0; rw [x1] at z; cases z
  have nf : ∀ q o ws, H q = some (.frz o (.lst ws)) → q ≠ a := fun q o ws z => by
    rintro rfl
    cases lo with
    | lst ds => obtain ⟨vs, x1, x2⟩ := r0; rw [x1] at z; cases z
    | dic kvs => obtain ⟨ok, vs, x1, x2⟩ := r0; rw [x1] at z; cases z
    | ins cc fs => obtain ⟨dx, vs, x1, x2⟩ := r0; rw [x1] at z; cases z
    | err cc v => obtain ⟨dx, y, x1, x3, x2⟩ := r0; rw [x1] at z; cases z
  have le : Le W.K α H α (upd H a o') := by
    refine ⟨⟨[], by simp⟩, fun q ws z => ?_, fun q ws z => ?_⟩
    · rcases z with z | z
      · have n := nt q ws z
        rcases z with z | ⟨o, z⟩
        · exact .inl (.inl (by rw [upd_ne n]; exact z))
        · exact .inl (.inr ⟨o, by rw [upd_ne n]; exact z⟩)
      · exact .inr z
    · rcases z with ⟨o, z⟩ | z
      · exact .inl ⟨o, by rw [upd_ne (nf q o ws z)]; exact z⟩
      · exact .inr z
  refine ⟨le, ⟨by rw [List.length_set]; exact hc.len, hc.nd, fun i o b e1 e2 => ?_⟩⟩
  by_cases hi : i = k
  · subst hi
    rw [ea] at e2; cases e2
    rw [List.getElem?_set_self (List.getElem?_eq_some_iff.mp e).1] at e1
    cases e1
    exact ro le upd_same
  · rw [List.getElem?_set_ne (Ne.symm hi)] at e1
    have nb : b ≠ a := by
      rintro rfl
      obtain ⟨k1, k2⟩ := List.getElem?_eq_some_iff.mp e2
      obtain ⟨k3, k4⟩ := List.getElem?_eq_some_iff.mp ea
      exact hi ((List.getElem_inj hc.nd).mp (k2.trans k4.symm))
    have q := hc.ob i o b e1 e2
    cases o with
    | lst ds => obtain ⟨ws, x1, x2⟩ := q; exact ⟨ws, by rw [upd_ne nb]; exact x1, x2.mono le⟩
    | dic kvs => obtain ⟨ok, ws, x1, x2⟩ := q; exact ⟨ok, ws, by rw [upd_ne nb]; exact x1, x2.mono le⟩
    | ins cc fs => obtain ⟨dx, ws, x1, x2⟩ := q; exact ⟨dx, ws, by rw [upd_ne nb]; exact x1, x2.mono le⟩
    | err cc v => obtain ⟨dx, y, x1, x3, x2⟩ := q; exact ⟨dx, y, by rw [upd_ne nb]; exact x1, by rw [upd_ne (nx _ _ x3)]; exact x3, x2.mono le⟩
theorem q_tup {x1} (ha : PA X es (semA W Wx ga)) : PE X (.Tuple es x1 pos) (semE W Wx (e_tup ga)) :=
  (pe_tup ha).imp fun σ H Q q => bindG (g := fun env xs h1 => if xs.length ≤ LIM then Res.ok (D.tup xs) h1 else .bad) q fun α env xs h1 vs H1 c rx k => by
    obtain ⟨hl, k⟩ := Run.ite k
    have rx : Reps W.K α H1 xs vs := rx
    refine ⟨by rw [← rx.length]; exact hl, fun p hp => ?_⟩
    obtain ⟨le, hc, rr⟩ := new_tup hp c.hc rx
    exact k α _ _ le hc rr
theorem size_lim : sizeLine = LIM := sizeLine_eq
theorem q_lst (ha : PA X es (semA W Wx ga)) : PE X (.List es pos) (semE W Wx (e_lst ga)) :=
  (pe_lst ha).imp fun σ H Q q => bindG (g := fun env xs h1 => if xs.length ≤ LIM then newO (.lst xs) h1 else .bad) q fun α env xs h1 vs H1 c rx k => by
    obtain ⟨hl, k⟩ := Run.ite k
    have rx : Reps W.K α H1 xs vs := rx
    refine ⟨by rw [← rx.length, size_lim]; exact hl, fun p hp => ?_⟩
    obtain ⟨le, hc, rr⟩ := new_lst hp c.hc rx
    exact k _ _ _ le hc rr
/-- a call of a built-in -/
theorem sem_cb {op : OL} {r : List V → Hp → VK → Prop} (hs : OLS W op r) {Q : VK} (q : semE W Wx (e_call op ga) σ H Q) : tCB r (semA W Wx ga) σ H Q :=
  bindG (g := fun env xs h1 => op xs h1) q fun α env xs h1 vs H1 c rx k => hs (WE Wx σ) α H1 h1 xs vs Q c.hc rx k
variable {x : Str} {p : Pos} {e : Expr} {id T : String} {r : List V → Hp → VK → Prop} {op : OL}
theorem q_callB (hs : OLS W op r) (hc : CallR X (.builtin id) r) (hg : Gl X x) (hm : X.mg x = none) (hv : bootBuiltins x = some (.builtin id)) (ha : PA X (e :: es) (semA W Wx ga)) (hn : x ≠ "__name__" := by decide) (hdb : (x == ("__debug__" : Str)) = false := by decide)
    (he : starEach (e :: es) X.env = (false, eval e X.env) :: starEach es X.env := by rfl) (hpl : (backTo pos (starEach es X.env)).any (·.1) = false := by rfl) :
    PE X (.Call (.Name x p) (e :: es) [] pos) (semE W Wx (e_call op ga)) := (pe_callB hc hg hm hv ha hn hdb he hpl).imp fun _ _ _ q => sem_cb hs q
theorem q_callTy (hs : OLS W op r) (hc : CallR X (.type T) r) (hg : Gl X x) (hm : X.mg x = none) (hv : bootBuiltins x = some (.type T)) (ha : PA X (e :: es) (semA W Wx ga)) (hn : x ≠ "__name__" := by decide) (hdb : (x == ("__debug__" : Str)) = false := by decide)
    (he : starEach (e :: es) X.env = (false, eval e X.env) :: starEach es X.env := by rfl) (hpl : (backTo pos (starEach es X.env)).any (·.1) = false := by rfl) :
    PE X (.Call (.Name x p) (e :: es) [] pos) (semE W Wx (e_call op ga)) := (pe_callTy hc hg hm hv ha hn hdb he hpl).imp fun _ _ _ q => sem_cb hs q
end
end IR

/-! ### statements, loops, comprehensions -/
namespace L2
open PySem
theorem PG.imp {X : Cx} {e : Expr} {t t' : TG} (p : PG X e t) (i : ∀ v σ H Q, t' v σ H Q → t v σ H Q) : PG X e t' := ⟨fun pins s σ H v u Q I r h => p.run pins s σ H v u Q I r (i v σ H Q h)⟩
theorem PGs.imp {X : Cx} {es : List Expr} {t t' : TGs} (p : PGs X es t) (i : ∀ v σ H Q, t' v σ H Q → t v σ H Q) : PGs X es t' := ⟨fun pins s σ H v u Q I r h => p.run pins s σ H v u Q I r (i v σ H Q h)⟩
theorem PI.imp {X : Cx} {tg it : Expr} {t t' : TI} (p : PI X tg it t) (i : ∀ σ H R, t' σ H R → t σ H R) : PI X tg it t' := ⟨fun pins s σ H R I h => p.run pins s σ H R I (i σ H R h)⟩
theorem PTs.imp {X : Cx} {es : List Expr} {t t' : TT} (p : PTs X es t) (i : ∀ σ H Q, t' σ H Q → t σ H Q) : PTs X es t' := ⟨fun pins s σ H Q I h => p.run pins s σ H Q I (i σ H Q h)⟩
end L2
namespace IR
open PySem PySem.Spec PyProof.Rows L2
section
variable (W : Wd)
def FlowRun (Wx : WX) (D : Ends) (α : List Addr) (H : Hp) : IR.Flow → Prop
  | .nx env' h' => ∀ α' σ' H', Le W.K α H α' H' → Corr W α' env' h' σ' H' → D.nx σ' H'
  | .rt d h' => ∀ α' H' v, Le W.K α H α' H' → HCorr W α' h' H' → Rep W.K α' H' d v → D.rt v H'
  | .bk env' h' => ∀ α' σ' H', Le W.K α H α' H' → Corr W α' env' h' σ' H' → D.bk σ' H'
  | .ct env' h' => ∀ α' σ' H', Le W.K α H α' H' → Corr W α' env' h' σ' H' → D.ct σ' H'
  | .exc c d env' h' => ∀ α' σ' H' dx v, Le W.K α H α' H' → Corr W α' env' h' σ' H' → Rep W.K α' H' d v → H' dx = some (.xd [(W.fld "value", v)]) → Wx (.ref (W.ec c)) (some dx) σ' H'
  | .bad => False
def semS (Wx : WX) (f : SS) : TS := fun D σ H => ∃ α env h, Corr W α env h σ H ∧ FlowRun W Wx D α H (f env h)
/-- S: what is kept of the slots -/
def semGt (S : L2.St → L2.St → Prop) (g : SG) : TG := fun v σ H Q => ∃ α env h d, Corr W α env h σ H ∧ Rep W.K α H d v ∧ match g d env h with
  | .nx env' h' => ∀ α' σ' H', Le W.K α H α' H' → Corr W α' env' h' σ' H' → S σ σ' → Q σ' H'
  | _ => False
def semGs (S : L2.St → L2.St → Prop) (g : List D → IR.Env → IR.Heap → IR.Flow) : TGs := fun vs σ H Q => ∃ α env h ds, Corr W α env h σ H ∧ Reps W.K α H ds vs ∧ match g ds env h with
  | .nx env' h' => ∀ α' σ' H', Le W.K α H α' H' → Corr W α' env' h' σ' H' → S σ σ' → Q σ' H'
  | _ => False
abbrev AnyS : L2.St → L2.St → Prop := fun _ _ => True
abbrev OwnS (own : List Nat) : L2.St → L2.St → Prop := fun σ σ' => L2.wipe σ' own = L2.wipe σ own
/-- an iterator walks what is told -/
structure ItS (α : List Addr) (H : Hp) (src : Src) (J : It) : Prop where
  go : ∀ i α' h' H' d, Le W.K α H α' H' → HCorr W α' h' H' → src.ok h' = true → src.items[i]? = some d → J.go i H' ∧ ∀ x H2, J.yld i H' x H2 → Le W.K α' H' α' H2 ∧ HCorr W α' h' H2 ∧ Rep W.K α' H2 d x
  stop : ∀ i α' h' H', Le W.K α H α' H' → HCorr W α' h' H' → src.ok h' = true → src.items.length ≤ i → J.stop i H'
abbrev RIt : List Addr → Hp → Src → It → Prop := fun α H s J => ItS W α H s J
abbrev semI (Wx : WX) (f : SI) : TI := semG W (RIt W) Wx f
end
section
variable {W : Wd} {Wx : WX} {α α' : List Addr} {σ σ' : L2.St} {H H' : Hp} {env env' : IR.Env} {h h' : IR.Heap} {X : Cx} {pos : Pos} {De : Ends}
theorem FlowRun.later {f : IR.Flow} (k : FlowRun W Wx De α H f) (le : Le W.K α H α' H') : FlowRun W Wx De α' H' f := by
  cases f with
  | nx env' h' => exact fun β σ' H2 l c => k β σ' H2 (le.trans l) c
  | rt d h' => exact fun β H2 v l c r => k β H2 v (le.trans l) c r
  | bk env' h' => exact fun β σ' H2 l c => k β σ' H2 (le.trans l) c
  | ct env' h' => exact fun β σ' H2 l c => k β σ' H2 (le.trans l) c
  | exc c d env' h' => exact fun β σ' H2 dx v l c => k β σ' H2 dx v (le.trans l) c
  | bad => exact k
/-- an expression, then what follows -/
theorem toR {β γ : Type} {R : List Addr → Hp → β → γ → Prop} {P : γ → Hp → Prop} {f : IR.Env → IR.Heap → Res β} {g : β → IR.Heap → IR.Flow} (c : Corr W α env h σ H) (q : FlowRun W Wx De α H ((f env h).to env g))
    (k : ∀ α' b h1 v H1, Le W.K α H α' H1 → Corr W α' env h1 σ H1 → R α' H1 b v → FlowRun W Wx De α' H1 (g b h1) → P v H1) : semG W R Wx f σ H P := by
  refine ⟨α, env, h, c, ?_⟩
  cases e : f env h with
  | bad => rw [e] at q; exact q
  | exc c1 d h' => rw [e] at q; exact fun α' H' dx v le hc r x => q α' σ H' dx v le (c.later le hc) r x
  | ok b h1 =>
    rw [e] at q
    exact fun α' H1 v le hc r => k α' b h1 v H1 le (c.later le hc) r (FlowRun.later q le)
theorem toG {β γ : Type} {R : List Addr → Hp → β → γ → Prop} {P : γ → Hp → Prop} {f : IR.Env → IR.Heap → Res β} {g : IR.Env → β → IR.Heap → IR.Flow} (q : semS W Wx (fun env h => (f env h).to env (g env)) De σ H)
    (k : ∀ α env b h1 v H1, Corr W α env h1 σ H1 → R α H1 b v → FlowRun W Wx De α H1 (g env b h1) → P v H1) : semG W R Wx f σ H P := by
  obtain ⟨α, env, h, c, q⟩ := q
  exact toR (g := g env) c q fun α' b h1 v H1 _ c r q => k α' env b h1 v H1 c r q
/-- behind gc -/
theorem toGc {P : V → Hp → Prop} {f : SE} {g : IR.Env → D → IR.Heap → IR.Flow} (q : semS W Wx (fun env h => (gc h (f env h)).to env (g env)) De σ H)
    (k : ∀ α env b h1 v H1, Corr W α env h1 σ H1 → Rep W.K α H1 b v → FlowRun W Wx De α H1 (g env b h1) → P v H1) : semE W Wx f σ H P := by
  obtain ⟨α, env, h, c, q⟩ := q
  obtain ⟨α2, env2, h2, c2, q2⟩ := toR (R := RV W) (f := fun env h => gc h (f env h)) (g := g env) c q fun α' b h1 v H1 _ c r q => k α' env b h1 v H1 c r q
  exact ⟨α2, env2, h2, c2, Run.gc c2.hc q2⟩
theorem toGcB {P : Bool → Hp → Prop} {f : ST} {g : IR.Env → Bool → IR.Heap → IR.Flow} (q : semS W Wx (fun env h => (gcB h (f env h)).to env (g env)) De σ H)
    (k : ∀ α env b h1 H1, Corr W α env h1 σ H1 → FlowRun W Wx De α H1 (g env b h1) → P b H1) : semT W Wx f σ H P := by
  obtain ⟨α, env, h, c, q⟩ := q
  obtain ⟨α2, env2, h2, c2, q2⟩ := toR (R := RI) (f := fun env h => gcB h (f env h)) (g := g env) (P := P) c q fun α' b h1 v H1 _ c r q => by cases r; exact k α' env b h1 H1 c q
  exact ⟨α2, env2, h2, c2, Run.gcB c2.hc q2⟩
variable {e : Expr} {fa fb : SE} {fs gs : SS} {st : Stmt} {rest : List Stmt}
theorem qs_nil : PSs X [] (semS W Wx s_nil) := pss_nil.imp fun D σ H ⟨α, env, h, c, q⟩ => q α σ H Le.refl c
theorem sem_seq (q : semS W Wx (s_cons fs gs) De σ H) : tSeq (semS W Wx fs) (semS W Wx gs) De σ H := by
  obtain ⟨α, env, h, c, q⟩ := q
  refine ⟨α, env, h, c, ?_⟩
  simp only [s_cons] at q
  cases e : fs env h with
  | nx env' h' =>
    rw [e] at q
    intro α' σ' H' le c'
    exact ⟨α', env', h', c', FlowRun.later (f := gs env' h') q le⟩
  | _ => rw [e] at q; exact q
theorem qs_cons (h1 : PS X st (semS W Wx fs)) (h2 : PSs X rest (semS W Wx gs)) : PSs X (st :: rest) (semS W Wx (s_cons fs gs)) := (pss_cons h1 h2).imp fun _ _ _ q => sem_seq q
theorem qs_one (h1 : PS X st (semS W Wx fs)) : PSs X [st] (semS W Wx fs) := pss_one h1
theorem q_bad : PS X st (semS W Wx s_bad) := ps_never.imp fun _ _ _ ⟨_, _, _, _, q⟩ => q
theorem qe_bad {e : Expr} : PE X e (semE W Wx fun _ _ => .bad) := ⟨fun _ _ _ _ _ _ ⟨_, _, _, _, q⟩ => q.elim⟩
theorem q_pass : PS X (.Pass pos) (semS W Wx s_nil) := ps_pass.imp fun D σ H ⟨α, env, h, c, q⟩ => q α σ H Le.refl c
theorem q_brk : PS X (.Break pos) (semS W Wx s_brk) := ps_break.imp fun D σ H ⟨α, env, h, c, q⟩ => q α σ H Le.refl c
theorem q_cnt : PS X (.Continue pos) (semS W Wx s_cnt) := ps_continue.imp fun D σ H ⟨α, env, h, c, q⟩ => q α σ H Le.refl c
theorem q_expr (he : PE X e (semE W Wx fa)) (hs : swapsWith e none pos.line X.env = pure false := by rfl) : PS X (.Expr e pos) (semS W Wx (s_expr fa)) :=
  (ps_expr he hs).imp fun D σ H q => toGc (g := fun env _ h1 => IR.Flow.nx env h1) q fun α env b h1 v H1 c r k => k α σ H1 Le.refl c
theorem q_ret (he : PE X e (semE W Wx fa)) : PS X (.Return (some e) pos) (semS W Wx (s_ret fa)) :=
  (ps_ret he).imp fun D σ H q => toG (R := RV W) (g := fun env x h1 => IR.Flow.rt x h1) q fun α env b h1 v H1 c r k => k α H1 v Le.refl c.hc r
theorem q_retN : PS X (.Return none pos) (semS W Wx s_retN) := ps_retN.imp fun D σ H ⟨α, env, h, c, q⟩ => q α H .non Le.refl c.hc (by simp only [Rep])
theorem q_ifS {c : Expr} {t : ST} {a b : List Stmt} (hc : PT X c (semT W Wx t)) (ha : PSs X a (semS W Wx fs)) (hb : PSs X b (semS W Wx gs)) : PS X (.If c a b pos) (semS W Wx (s_if t fs gs)) :=
  (ps_if hc ha hb).imp fun D σ H q => toGcB (g := fun env b h1 => if b then fs env h1 else gs env h1) q fun α env b h1 H1 c k => by
    cases b with
    | true => exact iteT ⟨α, env, h1, c, k⟩
    | false => exact iteF ⟨α, env, h1, c, k⟩
/-! targets -/
theorem Corr.set {i : Nat} {d : D} {v : V} (c : Corr W α env h σ H) (r : Rep W.K α H d v) : Corr W α (env.set i (some d)) h (σ.set i (some v)) H := by
  refine ⟨c.hc, by rw [List.length_set, List.length_set, c.len], fun j x e => ?_⟩
  by_cases hj : j = i
  · subst hj
    have hl : j < env.length := by
      have := (List.getElem?_eq_some_iff.mp e).1
      rwa [List.length_set] at this
    rw [List.getElem?_set_self hl] at e
    cases e
    exact ⟨v, List.getElem?_set_self (by rw [← c.len]; exact hl), r⟩
  · rw [List.getElem?_set_ne (Ne.symm hj)] at e
    obtain ⟨u, hu, ru⟩ := c.en j x e
    exact ⟨u, by rw [List.getElem?_set_ne (Ne.symm hj)]; exact hu, ru⟩
variable {S : L2.St → L2.St → Prop}
theorem qg_name (i : Nat) {x : Str} (hN : X.N.Nodup) (hS : ∀ σ v, S σ (σ.set i (some v)) := by exact fun _ _ => trivial) (hi : X.N[i]? = some x := by rfl) (hx : Loc X.env.scope x := by first | exact Or.inl rfl | exact Or.inr rfl) (hf : X.fn x = true ∨ X.env.scope.names.lookup x = some .local := by first | exact .inl rfl | exact .inr rfl | assumption) : PG X (.Name x pos) (semGt W S (g_name i)) :=
  (pg_name hN hi hx hf).imp fun v σ H Q ⟨α, env, h, d, c, r, q⟩ => q α _ H Le.refl (c.set r) (hS σ v)
theorem qgs_nil (hS : ∀ σ, S σ σ := by exact fun _ => trivial) : PGs X [] (semGs W S g_nil) := pgs_nil.imp fun vs σ H Q ⟨α, env, h, ds, c, r, q⟩ => by
  cases ds with
  | nil => simp only [Reps] at r; exact ⟨r, q α σ H Le.refl c (hS σ)⟩
  | cons d ds => exact q.elim
theorem qgs_cons {e : Expr} {es : List Expr} {g : SG} {gs : List D → IR.Env → IR.Heap → IR.Flow} (h1 : PG X e (semGt W S g)) (h2 : PGs X es (semGs W S gs)) (hS : ∀ a b c, S a b → S b c → S a c := by exact fun _ _ _ _ _ => trivial) (hs : (assignEach (e :: es) X.env).map (·.2) = assign e X.env :: (assignEach es X.env).map (·.2) := by rfl) : PGs X (e :: es) (semGs W S (g_cons g gs)) :=
  (pgs_cons h1 h2 hs).imp fun vs σ H Q ⟨α, env, h, ds, c, r, q⟩ => by
    cases ds with
    | nil => exact q.elim
    | cons d ds =>
      simp only [Reps] at r
      obtain ⟨v, rs, rfl, rv, rr⟩ := r
      refine ⟨v, rs, rfl, α, env, h, d, c, rv, ?_⟩
      simp only [g_cons] at q
      cases e : g d env h with
      | nx env' h' =>
        rw [e] at q
        simp only [Flow.then] at q
        intro α' σ' H' le c' s1
        refine ⟨α', env', h', ds, c', rr.mono le, ?_⟩
        cases e2 : gs ds env' h' with
        | nx env2 h2 => rw [e2] at q; exact fun α2 σ2 H2 le2 c2 s2 => q α2 σ2 H2 (le.trans le2) c2 (hS _ _ _ s1 s2)
        | _ => rw [e2] at q; exact q
      | _ => rw [e] at q; exact q
theorem qg_tup {es : List Expr} {k : Nat} {n : Nat} {gs : List D → IR.Env → IR.Heap → IR.Flow} (hK : W.K = X.K) (hc : X.calm = true) (h : PGs X es (semGs W S gs)) (hn : (assignEach es X.env).length = n := by rfl) (hst : (assignEach es X.env).findIdx? (·.1) = none := by rfl) : PG X (.Tuple es k pos) (semGt W S (g_tup n gs)) :=
  (pg_tup hc h hn hst).imp fun v σ H Q ⟨α, env, h, d, c, r, q⟩ => by
    cases d with
    | tup ds =>
      simp only [Rep] at r
      obtain ⟨p, vs, rfl, ht, rr⟩ := r
      simp only [g_tup] at q
      by_cases hl : ds.length = n
      · rw [if_pos hl] at q
        exact ⟨p, vs, rfl, hK ▸ ht, by rw [← rr.length]; exact hl, α, env, h, ds, c, rr, q⟩
      · rw [if_neg hl] at q; exact q.elim
    | _ => exact q.elim
theorem q_asg {tg : Expr} {g : SG} (he : PE X e (semE W Wx fa)) (hg : PG X tg (semGt W AnyS g)) (hs : swapsWithSole [tg] e pos.line X.env = pure false := by rfl) (hw : swappedStores [tg] e X.env = pure none := by rfl)
    (h1 : (assignEach [tg] X.env).map (·.2) = [assign tg X.env] := by rfl) : PS X (.Assign [tg] e pos) (semS W Wx (s_asg fa g)) :=
  (ps_asg he hg hs hw h1).imp fun D σ H q => toGc (g := fun env x h1 => onlyNx (g x env h1)) q fun α env b h1 v H1 c r k => by
    refine ⟨α, env, h1, b, c, r, ?_⟩
    cases e : g b env h1 with
    | nx env' h' => rw [e] at k; exact fun a b c d e _ => k a b c d e
    | _ => rw [e] at k; exact k.elim
/-- a name = e -/
theorem q_set (i : Nat) {x : Str} {pos' : Pos} (hN : X.N.Nodup) (he : PE X e (semE W Wx fa)) (hi : X.N[i]? = some x := by rfl) (hx : Loc X.env.scope x := by first | exact Or.inl rfl | exact Or.inr rfl) (hs : swapsWith e (some (.Name x pos')) pos.line X.env = pure false := by rfl) (hf : X.fn x = true ∨ X.env.scope.names.lookup x = some .local := by first | exact .inl rfl | exact .inr rfl | assumption) :
    PS X (.Assign [.Name x pos'] e pos) (semS W Wx (s_asg fa (g_name i))) :=
  (ps_set hN hi hx he hs hf).imp fun D σ H q => toGc (g := fun env x h1 => onlyNx (g_name i x env h1)) q fun α env b h1 v H1 c r k => k α _ H1 Le.refl (c.set r)
/-- a, b = e1, e2 -/
theorem q_par (i j : Nat) {x y : Str} {a b : Expr} {px py pt : Pos} {kt k2 pt2} (hc : X.calm = true) (hN : X.N.Nodup) (ha : PE X a (semE W Wx fa)) (hb : PE X b (semE W Wx fb))
    (hw : swappedStores [.Tuple [.Name x px, .Name y py] kt pt] (.Tuple [a, b] k2 pt2) X.env = pure (some [x, y])) (hi : X.N[i]? = some x := by rfl) (hj : X.N[j]? = some y := by rfl) (hij : i ≠ j := by decide)
    (hx : X.env.scope.names.lookup x = some .local := by rfl) (hy : X.env.scope.names.lookup y = some .local := by rfl)
    (hs : swapsWithSole [.Tuple [.Name x px, .Name y py] kt pt] (.Tuple [a, b] k2 pt2) pos.line X.env = pure false := by rfl)
    (h1 : starEach [a, b] X.env = (false, eval a X.env) :: starEach [b] X.env := by rfl) (h2 : starEach [b] X.env = (false, eval b X.env) :: starEach [] X.env := by rfl) : PS X (.Assign [.Tuple [.Name x px, .Name y py] kt pt] (.Tuple [a, b] k2 pt2) pos) (semS W Wx (s_par i j fa fb)) :=
  (ps_par hc hN hi hj hij hx hy (qa_cons ha (qa_cons hb qa_nil h2) h1) hw hs).imp fun D σ H ⟨α, env, h, c, q⟩ => by
    simp only [s_par] at q
    refine ⟨α, env, h, c, ?_⟩
    simp only [a_cons, a_nil]
    cases e : fa env h with
    | bad => rw [e] at q; exact q
    | exc c1 d h' => rw [e] at q; exact fun α' H' dx v le hc r x => q α' σ H' dx v le (c.later le hc) r x
    | ok z h1 =>
      rw [e] at q
      simp only [Res.to_ok] at q
      simp only [Res.bind_ok]
      cases e2 : fb env h1 with
      | bad => rw [e2] at q; exact q
      | exc c1 d h' => rw [e2] at q; exact fun α' H' dx v le hc r x => q α' σ H' dx v le (c.later le hc) r x
      | ok z2 h2 =>
        rw [e2] at q
        simp only [Res.to_ok] at q
        intro α' H' vs le hc r
        simp only [RL, Reps] at r
        obtain ⟨v, r1, rfl, rv, w, r2, rfl, rw', rfl⟩ := r
        exact ⟨v, w, rfl, q α' _ H' le (((c.later le hc).set rv).set rw')⟩
/-! loops -/
theorem q_while {c : Expr} {t : ST} {body : List Stmt} (hp : PassesOwn (model X.prog X.w) X.A X.env X.xe) (hc : PT X c (semT W Wx t)) (hb : PSs X body (semS W Wx fs)) : PS X (.While c body [] pos) (semS W Wx (s_while t fs)) :=
  (ps_while hp hc hb).imp fun De σ H ⟨α, env, h, c, q⟩ => by
    refine ⟨fun m σ H => ∃ α env h, Corr W α env h σ H ∧ FlowRun W Wx De α H (whileF t fs m env h), ⟨WF, α, env, h, c, q⟩, fun m σ H ⟨α, env, h, c, q⟩ => ?_⟩
    cases m with
    | zero => exact q.elim
    | succ m =>
      refine toGcB (f := t) (g := fun env b h1 => if b then match fs env h1 with
        | .nx σ' h' => whileF t fs m σ' h'
        | .ct σ' h' => whileF t fs m σ' h'
        | .bk σ' h' => .nx σ' h'
        | r => r else .nx env h1) ⟨α, env, h, c, q⟩ fun α env b h1 H1 c k => ?_
      cases b with
      | false => exact iteF (k α σ H1 Le.refl c)
      | true =>
        refine iteT ⟨fun σ' H' => ∃ α env h, Corr W α env h σ' H' ∧ FlowRun W Wx De α H' (whileF t fs m env h), fun σ' H' z => ⟨m, Nat.lt_succ_self m, z⟩, α, env, h1, c, ?_⟩
        simp only [if_true] at k
        cases e : fs env h1 with
        | nx env' h' => rw [e] at k; exact fun α' σ' H' le c' => ⟨α', env', h', c', FlowRun.later k le⟩
        | ct env' h' => rw [e] at k; exact fun α' σ' H' le c' => ⟨α', env', h', c', FlowRun.later k le⟩
        | bk env' h' => rw [e] at k; exact k
        | rt d h' => rw [e] at k; exact k
        | exc c1 d env' h' => rw [e] at k; exact k
        | bad => rw [e] at k; exact k
theorem q_for {tg iter : Expr} {it : SI} {g : SG} {body : List Stmt} (hp : PassesOwn (model X.prog X.w) X.A X.env X.xe) (hc : X.calm = true) (hi : PI X tg iter (semI W Wx it)) (hg : PG X tg (semGt W AnyS g)) (hb : PSs X body (semS W Wx fs))
    (hs : ∀ x, foldedSetIterable iter X.env x = pure x := by intro _; rfl) : PS X (.For tg iter body [] pos) (semS W Wx (s_for it g fs)) :=
  (ps_for hp hc hi hg hb hs).imp fun De σ H q => toG (R := RIt W) (g := fun env s h1 => forF g fs s s.items env h1) q fun α0 env0 src h0 J H0 c0 is k0 => by
    refine ⟨fun i m σ H => m + i = src.items.length ∧ ∃ α env h, Le W.K α0 H0 α H ∧ Corr W α env h σ H ∧ FlowRun W Wx De α H (forF g fs src (src.items.drop i) env h), ⟨src.items.length, rfl, α0, env0, h0, Le.refl, c0, by simpa using k0⟩, fun i m σ H ⟨hm, α, env, h, le, c, q⟩ => ?_⟩
    cases ed : src.items.drop i with
    | nil =>
      rw [ed] at q
      simp only [forF] at q
      by_cases hok : src.ok h = true
      · rw [if_pos hok] at q
        exact .inl ⟨is.stop i α h H le c.hc hok (by simpa using ed), q α σ H Le.refl c⟩
      · rw [if_neg hok] at q; exact q.elim
    | cons x xs =>
      rw [ed] at q
      simp only [forF] at q
      by_cases hok : src.ok h = true
      · rw [if_pos hok] at q
        have hx : src.items[i]? = some x := by
          have := congrArg List.head? ed
          simpa [List.head?_drop] using this
        have hxs : src.items.drop (i + 1) = xs := by
          have := congrArg List.tail ed
          simpa [List.tail_drop] using this
        have hil : i < src.items.length := (List.getElem?_eq_some_iff.mp hx).1
        obtain ⟨g1, g2⟩ := is.go i α h H x le c.hc hok hx
        refine .inr ⟨g1, fun σ' H' => ∃ α env h, Le W.K α0 H0 α H' ∧ Corr W α env h σ' H' ∧ FlowRun W Wx De α H' (forF g fs src xs env h), fun σ' H' ⟨α, env, h, l, c, q⟩ => ⟨m - 1, by omega, by omega, α, env, h, l, c, by rw [hxs]; exact q⟩, fun v H' y => ?_⟩
        obtain ⟨le1, hc1, rx⟩ := g2 v H' y
        refine ⟨α, env, h, x, c.later le1 hc1, rx, ?_⟩
        cases eg : g x env h with
        | nx env1 h1 =>
          rw [eg] at q
          simp only at q
          intro α2 σ2 H2 le2 c2 _
          refine ⟨α2, env1, h1, c2, ?_⟩
          have l02 := (le.trans le1).trans le2
          have q2 := FlowRun.later q (le1.trans le2)
          cases e : fs env1 h1 with
          | nx env' h' => rw [e] at q2; exact fun α' σ' H' l c' => ⟨α', env', h', l02.trans l, c', FlowRun.later q2 l⟩
          | ct env' h' => rw [e] at q2; exact fun α' σ' H' l c' => ⟨α', env', h', l02.trans l, c', FlowRun.later q2 l⟩
          | bk env' h' => rw [e] at q2; exact q2
          | rt d h' => rw [e] at q2; exact q2
          | exc c1 d env' h' => rw [e] at q2; exact q2
          | bad => rw [e] at q2; exact q2
        | _ => rw [eg] at q; exact q.elim
      · rw [if_neg hok] at q; exact q.elim
/-! comprehensions -/
abbrev W0 : WX := fun _ _ _ _ => False
theorem wipe_len (own : List Nat) : (IR.wipe env own).length = env.length := by
  induction own with
  | nil => rfl
  | cons v vs ih => simp only [IR.wipe, List.length_set, ih]
theorem wipe_get (σ : L2.St) : ∀ (own : List Nat) (i : Nat), (L2.wipe σ own)[i]? = if i ∈ own ∧ i < σ.length then some none else σ[i]?
  | [], i => by simp [L2.wipe]
  | v :: vs, i => by
    have ih := wipe_get σ vs i
    unfold L2.wipe
    by_cases hi : v = i
    · subst hi
      by_cases hl : v < σ.length
      · rw [List.getElem?_set_self (by rw [L2.wipe_length]; exact hl), if_pos ⟨List.mem_cons_self, hl⟩]
      · rw [List.getElem?_eq_none (by simpa [L2.wipe_length] using hl), if_neg (fun z => hl z.2), List.getElem?_eq_none (by omega)]
    · rw [List.getElem?_set_ne hi, ih]
      have : i ∈ v :: vs ↔ i ∈ vs := by simp [Ne.symm hi]
      simp only [this]
theorem wipe_wipe (σ : L2.St) (own : List Nat) : L2.wipe (L2.wipe σ own) own = L2.wipe σ own := by
  apply List.ext_getElem?
  intro i
  rw [wipe_get, wipe_get, L2.wipe_length]
  split <;> rfl
theorem wipe_own {σ : L2.St} {own : List Nat} {i : Nat} {o : Option V} (h : i ∈ own) : L2.wipe (σ.set i o) own = L2.wipe σ own := by
  apply List.ext_getElem?
  intro j
  rw [wipe_get, wipe_get, List.length_set]
  by_cases hj : j ∈ own ∧ j < σ.length
  · rw [if_pos hj, if_pos hj]
  · rw [if_neg hj, if_neg hj]
    by_cases hij : i = j
    · subst hij
      have : ¬ i < σ.length := fun z => hj ⟨h, z⟩
      rw [List.getElem?_eq_none (by simpa using this), List.getElem?_eq_none (by omega)]
    · rw [List.getElem?_set_ne hij]
theorem Corr.wipe (c : Corr W α env h σ H) (own : List Nat) : Corr W α (IR.wipe env own) h (L2.wipe σ own) H := by
  induction own with
  | nil => exact c
  | cons v vs ih =>
    refine ⟨c.hc, by rw [wipe_len, L2.wipe_length, c.len], fun i d e => ?_⟩
    simp only [IR.wipe] at e
    by_cases hi : i = v
    · subst hi
      by_cases hl : i < (IR.wipe env vs).length
      · rw [List.getElem?_set_self hl] at e; cases e
      · rw [List.getElem?_eq_none (by simpa using hl)] at e; cases e
    · rw [List.getElem?_set_ne (Ne.symm hi)] at e
      obtain ⟨u, hu, ru⟩ := ih.en i d e
      exact ⟨u, by unfold L2.wipe; rw [List.getElem?_set_ne (Ne.symm hi)]; exact hu, ru⟩
theorem noX_run {E E' : XK} {β γ δ ε : Type} {R : List Addr → Hp → β → γ → Prop} {R' : List Addr → Hp → δ → ε → Prop} {Q : ε → Hp → Prop} {P : γ → Hp → Prop} {r : Res β} {g : β → IR.Heap → Res δ} (hc : HCorr W α h H) (q : Run W R' E α H Q ((noX r).bind g))
    (k : ∀ α' b h1 v H1, Le W.K α H α' H1 → HCorr W α' h1 H1 → R α' H1 b v → Run W R' E α' H1 Q (g b h1) → P v H1) : Run W R E' α H P r := by
  cases r with
  | ok b h1 => exact fun α' H1 v le hc r => k α' b h1 v H1 le hc r (Run.later q le)
  | exc c d h' => exact q.elim
  | bad => exact q.elim
theorem sem_lc {it : SI} {g : SG} {t : ST} {own : List Nat} {Q : VK} (q : semE W Wx (e_lc it g t fa own) σ H Q) : tLc (semI W Wx it) (semGt W (OwnS own) g) (semT W W0 t) (semE W W0 fa) own σ H Q :=
  bindG (g := fun env s h1 => (lcF g t fa own s h1.length s.items (IR.wipe env own) (h1 ++ [.lst []])).bind fun _ h2 => Res.ok (D.ref h1.length) h2) q fun α0 env0 src h0 J H0 c0 is k0 => by
    intro A hA
    have n0 := new_lst (ds := []) (vs := []) hA c0.hc (by simp only [Reps])
    obtain ⟨len0, hcn, rn⟩ := n0
    have aL : (α0 ++ [A])[h0.length]? = some A := by rw [← c0.hc.len]; simp
    generalize hL : h0.length = L at *
    have c1 : Corr W (α0 ++ [A]) (IR.wipe env0 own) (h0 ++ [.lst []]) (L2.wipe σ own) (upd H0 A (.lst [])) := (c0.later len0 hcn).wipe own
    refine ⟨fun i m H => m + i = src.items.length ∧ ∃ α h, Le W.K α0 H0 α H ∧ Corr W α (IR.wipe env0 own) h (L2.wipe σ own) H ∧ α[L]? = some A ∧ Run W (RV W) (WE Wx σ) α H Q ((lcF g t fa own src L (src.items.drop i) (IR.wipe env0 own) h).bind fun _ h2 => Res.ok (D.ref L) h2),
      ⟨src.items.length, rfl, α0 ++ [A], h0 ++ [.lst []], len0, c1, aL, by simpa using Run.later k0 len0⟩, fun i m H ⟨hm, α, h, le, c, ea, q⟩ => ?_⟩
    cases ed : src.items.drop i with
    | nil =>
      rw [ed] at q
      simp only [lcF] at q
      by_cases hok : src.ok h = true
      · rw [if_pos hok] at q
        exact .inl ⟨is.stop i α h H le c.hc hok (by simpa using ed), Run.done (v := V.ref A) q c.hc (by simp only [RV, Rep]; exact ⟨A, ea, rfl⟩)⟩
      · rw [if_neg hok] at q; exact q.elim
    | cons x xs =>
      rw [ed] at q
      simp only [lcF] at q
      by_cases hok : src.ok h = true
      · rw [if_pos hok] at q
        have hx : src.items[i]? = some x := by
          have := congrArg List.head? ed
          simpa [List.head?_drop] using this
        have hxs : src.items.drop (i + 1) = xs := by
          have := congrArg List.tail ed
          simpa [List.tail_drop] using this
        have hil : i < src.items.length := (List.getElem?_eq_some_iff.mp hx).1
        obtain ⟨g1, g2⟩ := is.go i α h H x le c.hc hok hx
        have keepA : ∀ {β : List Addr} {G : Hp}, Le W.K α H β G → β[L]? = some A := fun {β G} l => by
          obtain ⟨g, rfl⟩ := l.pre
          rw [List.getElem?_append_left (List.getElem?_eq_some_iff.mp ea).1]
          exact ea
        refine .inr ⟨g1, fun H' => ∃ α h, Le W.K α0 H0 α H' ∧ Corr W α (IR.wipe env0 own) h (L2.wipe σ own) H' ∧ α[L]? = some A ∧ Run W (RV W) (WE Wx σ) α H' Q ((lcF g t fa own src L xs (IR.wipe env0 own) h).bind fun _ h2 => Res.ok (D.ref L) h2), fun H' ⟨α, h, l, c, e1, q⟩ => ⟨m - 1, by omega, by omega, α, h, l, c, e1, by rw [hxs]; exact q⟩, fun v H' y => ?_⟩
        obtain ⟨le1, hc1, rx⟩ := g2 v H' y
        have cb := c.later le1 hc1
        refine ⟨α, IR.wipe env0 own, h, x, cb, rx, ?_⟩
        cases eg : g x (IR.wipe env0 own) h with
        | nx env1 h1 =>
          rw [eg] at q
          simp only at q
          intro α2 σ2 H2 le2 c2 sS
          have sS' : L2.wipe σ2 own = L2.wipe σ own := by
            rw [sS]
            exact wipe_wipe σ own
          refine ⟨sS', α2, env1, h1, c2, ?_⟩
          have l2 := le1.trans le2
          have q2 := Run.later q l2
          rw [Res.bind_assoc] at q2
          refine Run.gcB c2.hc ?_
          refine noX_run (R := RI) (g := fun b h2 => (if b then (noX (IR.gc h2 (fa env1 h2))).bind fun y h3 => match h3[L]? with
            | some (.lst acc) => if acc.length < LIM then lcF g t fa own src L xs (IR.wipe env0 own) (h3.set L (.lst (acc ++ [y]))) else .bad
            | _ => .bad else lcF g t fa own src L xs (IR.wipe env0 own) h2).bind fun _ h2 => Res.ok (D.ref L) h2) c2.hc q2 fun α3 b h3 b' H3 le3 hc3 eb q3 => ?_
          cases eb
          have l3 := l2.trans le3
          cases b with
          | false =>
            refine iteF ⟨α3, h3, le.trans l3, ?_, keepA l3, q3⟩
            exact (cb.later (le2.trans le3) hc3)
          | true =>
            simp only [if_true] at q3
            rw [Res.bind_assoc] at q3
            refine iteT ⟨α3, env1, h3, c2.later le3 hc3, ?_⟩
            refine Run.gc hc3 ?_
            refine noX_run (R := RV W) (g := fun y h4 => (match h4[L]? with
            | some (.lst acc) => if acc.length < LIM then lcF g t fa own src L xs (IR.wipe env0 own) (h4.set L (.lst (acc ++ [y]))) else .bad
            | _ => .bad).bind fun _ h2 => Res.ok (D.ref L) h2) hc3 q3 fun α4 y h4 w H4 le4 hc4 ry q4 => ?_
            have l4 := l3.trans le4
            cases e4 : h4[L]? with
            | none => rw [e4] at q4; exact q4.elim
            | some o =>
              rw [e4] at q4
              cases o with
              | lst acc =>
                simp only at q4
                by_cases hz : acc.length < LIM
                · rw [if_pos hz] at q4
                  have ro := hc4.ob L (.lst acc) A e4 (keepA l4)
                  obtain ⟨vs, hv, rvs⟩ := ro
                  refine ⟨vs, hv, by rw [← rvs.length, size_lim]; exact hz, ?_⟩
                  obtain ⟨lw, hw⟩ := write_obj (lo' := .lst (acc ++ [y])) (o' := .lst (vs ++ [w])) hc4 e4 (keepA l4) (fun {H'} l e => ⟨_, e, (rvs.mono l).append (Reps.one (Rep.mono l ry))⟩)
                  exact ⟨α4, _, (le.trans l4).trans lw, cb.later (((le2.trans le3).trans le4).trans lw) hw, keepA (l4.trans lw), Run.later q4 lw⟩
                · rw [if_neg hz] at q4; exact q4.elim
              | _ => exact q4.elim
        | _ => rw [eg] at q; exact q.elim
      · rw [if_neg hok] at q; exact q.elim
theorem q_lc {elt tg iter : Expr} {ifs : List Expr} {scope : Scope} (own : List (Str × Nat)) {it : SI} {g : SG} {t : ST} (hc : X.calm = true) (hN : X.N.Nodup) (hi : PI X tg iter (semI W Wx it)) (ok : BlkOk X.N X.env.scope scope own)
    (hg : ∀ (s : Shared) (H : Hp) (C : Addr) (cl : List (Str × Addr)) (fp : List Addr), PG (X.blk s H scope (compEnvC scope cl C X.env) fp) tg (semGt W (OwnS (own.map (·.2))) g)) (ht : ∀ (s : Shared) (H : Hp) (C : Addr) (cl : List (Str × Addr)) (fp : List Addr), PTs (X.blk s H scope (compEnvC scope cl C X.env) fp) ifs (semT W W0 t))
    (he : ∀ (s : Shared) (H : Hp) (C : Addr) (cl : List (Str × Addr)) (fp : List Addr), PE (X.blk s H scope (compEnvC scope cl C X.env) fp) elt (semE W W0 fa)) (hs : ∀ x, foldedSetIterable iter X.env x = pure x := by intro _; rfl) :
    PE X (.ListComp elt [⟨tg, iter, ifs, 0⟩] scope pos) (semE W Wx (e_lc it g t fa (own.map (·.2)))) := (pe_lc hc hN hi ok hg ht he hs).imp fun _ _ _ q => sem_lc q
theorem qts_nil : PTs X [] (semT W Wx t_yes) := pts_nil.imp fun σ H Q ⟨α, env, h, c, q⟩ => Run.done q c.hc rfl
theorem qts_one {c : Expr} {t : ST} (h : PT X c (semT W Wx t)) : PTs X [c] (semT W Wx t) := pts_one h
/-- name = [..] -/
theorem q_setLc (i : Nat) {y : Str} {py : Pos} {elt tg iter : Expr} {ifs : List Expr} {scope : Scope} {spos : Pos} (own : List (Str × Nat)) {it : SI} {g : SG} {t : ST} (hc : X.calm = true) (hN : X.N.Nodup)
    (hsw : swapsWith (.ListComp elt [⟨tg, iter, ifs, 0⟩] scope pos) (some (.Name y py)) spos.line X.env = pure true) (hi : PI X tg iter (semI W Wx it)) (ok : BlkOk X.N X.env.scope scope own)
    (hg : ∀ (s : Shared) (H : Hp) (C : Addr) (cl : List (Str × Addr)) (fp : List Addr), PG (X.blk s H scope (compEnvC scope cl C X.env) fp) tg (semGt W (OwnS (own.map (·.2))) g)) (ht : ∀ (s : Shared) (H : Hp) (C : Addr) (cl : List (Str × Addr)) (fp : List Addr), PTs (X.blk s H scope (compEnvC scope cl C X.env) fp) ifs (semT W W0 t))
    (he : ∀ (s : Shared) (H : Hp) (C : Addr) (cl : List (Str × Addr)) (fp : List Addr), PE (X.blk s H scope (compEnvC scope cl C X.env) fp) elt (semE W W0 fa))
    (hy : X.N[i]? = some y := by rfl) (hyl : X.env.scope.names.lookup y = some .local := by rfl) (hs : ∀ x, foldedSetIterable iter X.env x = pure x := by intro _; rfl) :
    PS X (.Assign [.Name y py] (.ListComp elt [⟨tg, iter, ifs, 0⟩] scope pos) spos) (semS W Wx (s_asg (e_lc it g t fa (own.map (·.2))) (g_name i))) :=
  (ps_setLc hc hN hy hyl hsw hi ok hg ht he hs).imp fun De σ H q => sem_lc (toGc (g := fun env x h1 => onlyNx (g_name i x env h1)) q fun α env b h1 v H1 c r k => k α _ H1 Le.refl (c.set r))
end
end IR
end

section
set_option Elab.async false
set_option linter.all false
set_option autoImplicit false
set_option maxRecDepth 100000
set_option maxHeartbeats 4000000
/-! own errors: their __init__ (super().__init__(value); self.value = value), made, raised, caught, looked at -/
namespace IR
open PySem PySem.W PySem.Calls PySem.Spec PyProof.Rows L2 NdefX
/-- what the written part says of the __init__ of the one base at D -/
structure InitF (prog : Program) (K : PySem.W.Frag) (mg : Str → Option Value) (D f : Addr) (fd : FuncData) (st1 st2 : Stmt) : Prop where
  ex : ∃ (name qual : Str) (params : Arguments) (scope : Scope) (cc cda : Addr) (dV kV doc pm ct oc ccl cl : Value) (an cdd cld od : Option Addr) (osl ccs csl : Array (Option Value)) (vs : Array Value) (file : Str) (tf : Tok) (cdD : ClassData) (p0 p1 p2 pe pos pos2 pos3 q1 q2 q3 : Pos),
    fd = fnX name qual params [st1, st2] scope [("__class__", cc)] dV kV doc pm an (.ref cda) ct ∧
    K.lookup f = some ⟨oc, od, .func fd, osl⟩ ∧ codeIn K (.ref cda) qual = true ∧ K.lookup cda = some ⟨ccl, cdd, .fields vs, ccs⟩ ∧ vs[2]? = some (.str file tf) ∧ ((prog.main.file : Str) == file) = true ∧
    K.lookup cc = some ⟨cl, cld, .cell (some (.ref D)), csl⟩ ∧ clsIn K D = some cdD ∧
    (fd.params.posonlyargs ++ fd.params.args).head?.map (·.arg) = some "self" ∧
    st1 = .Expr (.Call (.Attribute (.Call (.Name "super" p0) [] [] p1) "__init__" p2) [.Name "value" pe] [] pos) pos2 ∧
    st2 = .Assign [.Attribute (.Name "self" q1) "value" q2] (.Name "value" q3) pos3 ∧
    NScope ["self", "value", "__class__"] ["self", "value"] ["__class__"] scope ∧ scope.names.lookup ("super" : Str) = some .globalImplicit ∧
    (∀ env : PySem.Env, (∃ pl : Sem Bool, eval (.Call (.Attribute (.Call (.Name "super" p0) [] [] p1) "__init__" p2) [.Name "value" pe] [] pos) env = (do
      let ov ← attributeBase (.Call (.Name "super" p0) [] [] p1) "__init__" env (eval (.Call (.Name "super" p0) [] [] p1) env)
      standAt p2.atName
      let (f, first) ← holding [ov] (getMethod ov "__init__" pl)
      callWith pos f first (backTo pos (starEach [.Name "value" pe] env)) [])) ∧
      swapsWith (.Call (.Attribute (.Call (.Name "super" p0) [] [] p1) "__init__" p2) [.Name "value" pe] [] pos) none pos2.line env = pure false ∧
      swapsWith (.Name "value" q3) (some (.Attribute (.Name "self" q1) "value" q2)) pos3.line env = pure false)
/-- a class of errors over the base D -/
structure ErrC (K : PySem.W.Frag) (D C : Addr) : Prop where
  oex : OexC K C
  up : ks_superIn K C D "__init__" = some (some (.builtin "ValueError.__init__"))
  over : mroIn K C (.ref D) = some true
  val : subIn K (.ref C) (.type "ValueError") = some true
  noval : findIn K (.ref C) "value" = some none
section
variable {X : Cx} {pins : List (Addr × Obj)} {σ : L2.St} {H : Hp} {s : Shared} {M : Model} {a C D f cc cda : Addr} {E : Value → Shared → Prop}
theorem hear_super {body : List Stmt} {p0 p1 : Pos} {whole : Sem Value} {fd : FuncData} {ar : Arg} {vs : Array Value} {file : Str} {tf : Tok} {oc ccl cl : Value} {od cdd cld : Option Addr} {osl ccs csl : Array (Option Value)} {cdD : ClassData} {Q : Value → Shared → Prop}
    (I : L2.Inv X pins σ H s) (EC : ErrC X.K D C) (e : H a = some (exo a C none)) (hN : X.N[0]? = some ("self" : Str)) (hσ : σ[0]? = some (some (.ref a))) (hself : X.env.scope.names.lookup ("self" : Str) = some .local)
    (hf : X.K.lookup f = some ⟨oc, od, .func fd, osl⟩) (hp : (fd.params.posonlyargs ++ fd.params.args).head? = some ar) (har : ar.arg = "self") (hfu : X.env.func = some f) (hco : X.env.code = .ref cda)
    (hcode : X.K.lookup cda = some ⟨ccl, cdd, .fields vs, ccs⟩) (hvs : vs[2]? = some (.str file tf)) (hfile : ((X.prog.main.file : Str) == file) = true)
    (hcell : X.K.lookup cc = some ⟨cl, cld, .cell (some (.ref D)), csl⟩) (hcells : X.env.cells.lookup ("__class__" : Str) = some cc) (hD : clsIn X.K D = some cdD) (hms : X.mg "super" = none)
    (hks : X.env.scope.names.lookup ("super" : Str) = some .globalImplicit) (hkc : X.env.scope.names.lookup ("__class__" : Str) = some .free) (htop : (X.prog.main.scope.names.lookup ("super" : Str)).isSome = false) (hboot : bootBuiltins "super" = some (.type "super"))
    (h : ∀ so s', L2.Inv X pins σ H s' → s'.heap.get? so = some (ks_superObj D a C) → Q (.ref so) s') :
    PySem.wpAt (model X.prog X.w) X.A (.func body X.env) (attributeBase (.Call (.Name "super" p0) [] [] p1) "__init__" X.env whole) Q E s := by
  have kin := I.kIn
  obtain ⟨oD, hD1, hD2⟩ : ∃ oD, s.heap.get? D = some oD ∧ oD.data = .cls cdD := by
    unfold clsIn at hD
    split at hD
    · rename_i c d cd' sl ho
      cases hD
      exact ⟨_, kin _ _ ho, rfl⟩
    · cases hD
  obtain ⟨t1, hx⟩ := exo_at I.hok e
  obtain ⟨m, hm, hl⟩ := id I.loc
  obtain ⟨u, ru, lk⟩ := hl 0 "self" _ hN hσ (.inl hself)
  cases (show u = Value.ref a from ru)
  have hv : m ("self" : Str) = some (.ref a) := by
    rcases lk with ⟨_, q⟩ | ⟨q, _⟩
    · exact q
    · rcases q with q | q <;> (rw [show X.env.kindOf "self" = some .local from hself] at q; cases q)
  obtain ⟨mb, b1, b2⟩ := I.mod.blt
  have ex : ∀ w : Str, w = "self" → m w = some (.ref a) ∧ X.env.kindOf w = some .local := fun w z => by subst z; exact ⟨hv, hself⟩
  obtain ⟨e1, e2⟩ := ex ar.arg har
  refine ks_wpAt_super_base (env := X.env) hks hkc (by decide) hfu (kin _ _ hf) rfl hp hco (kin _ _ hcode) rfl hvs hfile htop ?_
  refine ks_loadName_global I.ok.kind hks (loadGlobal_builtin (by rw [I.ok.glob]; exact I.mod.glob.keeps I.bk) hms (by rw [I.ok.blt]; exact b1.keeps I.bk) ((b2 _ (by decide)).trans hboot) ⟨rfl, ?_⟩)
  refine wpAny_loadName_free I.ok.kind hkc hcells ⟨_, kin _ _ hcell, rfl⟩ (wpAny_loadName_local I.ok.kind e2 hm e1 (ks_wpAny_isType_cls hD1 hD2 ⟨rfl, ?_⟩))
  obtain ⟨hh, g, d, t, os⟩ := s
  refine ks_wpAny_call_super hD1 hD2 hx rfl (fun c z => by cases z) (looks_mroIn kin EC.over) fun h' z k => ?_
  exact h _ _ (I.kept (t' := t) k) z
/-- super().__init__, the method -/
theorem init_meth {so : Addr} {pl : Sem Bool} {Q : Value × List Value → Shared → Prop} (I : L2.Inv X pins σ H s) (EC : ErrC X.K D C) (e : H a = some (exo a C none)) (hso : s.heap.get? so = some (ks_superObj D a C)) (ho : nsIn X.K cStatics "thirdparty.any" = some none)
    (h : ∀ q s', L2.Inv X pins σ H s' → s'.heap.get? q = some (kxs_mw "ValueError.__init__" a) → H q = none ∧ q ≠ X.env.locals ∧ q ∉ X.fs → Q (.ref q, []) s') : wpAny (model X.prog X.w) X.A (getMethod (.ref so) "__init__" pl) Q E s := by
  have kin := I.kIn
  obtain ⟨t1, hx⟩ := exo_at I.hok e
  have up := EC.up
  unfold ks_superIn at up
  cases hc : clsIn X.K C with
  | none => rw [hc] at up; cases up
  | some cd =>
    rw [hc] at up
    have aC : a ≠ C := by
      rintro rfl
      unfold clsIn at hc
      split at hc
      · rename_i c d cd' sl ho2
        have z := (kin _ _ ho2).symm.trans hx
        cases z
      · cases hc
    have LT : Looks (model X.prog X.w) s.heap (typeOf (.ref a)) (.ref C) := fun A Q E s k q => wpAny_typeOf_ref (k _ _ hx) q
    obtain ⟨hh, g, d, t, os⟩ := s
    refine kxs_getMethod kxs_ValueError hso (looks_opaque kin ho) (l₀ := cd.mro) ?_ rfl kin up (LT.andThen (looks_subIn kin EC.val)) aC (by decide) ?_
    · exact fun A Q E s k q => wpAny_bind ((looks_clsIn kin hc) A _ E s k (wpAny_pure q))
    · exact h _ _ (I.kept (t' := t + 1) fun b o z => Heap.get?_push_of_some _ z) (Heap.get?_push_at rfl rfl) ⟨I.hok.fresh (Nat.le_refl _), Nat.ne_of_gt I.lt, I.nofs (Nat.le_refl _)⟩
/-- .. called -/
theorem init_called {q : Addr} {rest : List Value} {Q : Value → Shared → Prop} (I : L2.Inv X pins σ H s) (EC : ErrC X.K D C) (e : H a = some (exo a C none)) (hq : s.heap.get? q = some (kxs_mw "ValueError.__init__" a)) (hz : rest.length ≤ sizeLine)
    (h : ∀ s', L2.Inv X pins σ H s' → Q .none s') : wpAny (model X.prog X.w) X.A (call (.ref q) rest) Q E s := by
  obtain ⟨nm, qn, N, bs, bm, sn, sub, ab, col, dd, k0, k1, k2, k3, k5, hC, hbm⟩ := EC.oex.cls
  obtain ⟨t1, hx⟩ := exo_at I.hok e
  have same : upd H a (exo a C none) = H := by
    funext b
    by_cases hb : b = a
    · rw [hb, upd_same, e]
    · rw [upd_ne hb]
  obtain ⟨hp, g, d, t, os⟩ := s
  refine wpAny_call (codeAny_of_tree ?_)
  show wpAny _ X.A.in1 (callAny (.ref q) ⟨rest, []⟩) _ _ _
  simp only [callAny]
  refine wpAny_bind (wpAny_load hq ?_)
  simp only [kxs_mw, show (Value.type "method-wrapper" == Value.type "method" || Value.type "method-wrapper" == Value.type "builtin_function_or_method" || Value.type "method-wrapper" == Value.type "method-wrapper") = true by decide, if_true]
  refine KFB.if_so (by decide) (wpAny_bind (check_bound_init PySem.F.excBase_ValueError.toExcCallFacts (I.kIn _ _ hC) hx rfl (wpAny_bind (wpAny_pure (wpAny_pure ⟨plainId_quiet PySem.F.excBase_ValueError.init.plain _, codeAny_builtin PySem.F.excBase_ValueError.initEntry ?_⟩)))))
  refine exc_init_tree (cls := .ref C) (t0 := t1) (dv := none) (c2 := .none) (c3 := .none) (b4 := .bool false) hx hz fun h' k hx2 _ => ?_
  have J := I.write (t' := t) (x := a) (e := a) (o := exo a C none) (by rw [e]; exact True.intro) (.inl rfl) k ⟨_, hx2⟩ (exo_ok hx2)
  rw [same] at J
  exact h _ J
end

abbrev nI : List Str := ["self", "value", "__class__"]
abbrev pI : List Str := ["self", "value"]
/-- what the one __init__ promises -/
def spInit (K : PySem.W.Frag) (D : Addr) : Sp := fun zs H Q _ => ∃ (a C : Addr) (y : V), zs = [.ref a, y] ∧ ErrC K D C ∧ H a = some (exo a C none) ∧ ∀ dx, H dx = none → dx ≠ a → Q .non (upd (upd H dx (exd dx [("value", y)])) a (exo a C (some dx)))
theorem init_fn {P : Program} {w : World} {K : PySem.W.Frag} {mg : Str → Option Value} {base : PySem.Heap} {CX : CXT} {k : Nat} {D f : Addr} {fd : FuncData} {st1 st2 : Stmt} (F : InitF P K mg D f fd st1 st2)
    (hms : mg "super" = none) (ho : nsIn K cStatics "thirdparty.any" = some none) (htop : (P.main.scope.names.lookup ("super" : Str)).isSome = false) (hboot : bootBuiltins "super" = some (.type "super")) :
    FnOk P w K mg base CX (k + 1) f fd pI (spInit K D) := by
  refine ⟨fun zs H Q E ⟨a, C, y, e, _⟩ => by rw [e]; rfl, fun A outer s H args us zs Q E hr e0 bb r hsp => ?_⟩
  obtain ⟨a, C, y, rfl, EC, ea, hq⟩ := hsp
  obtain ⟨name, qual, params, scope, cc, cda, dV, kV, doc, pm, ct, oc, ccl, cl, an, cdd, cld, od, osl, ccs, csl, vs, file, tf, cdD, p0, p1, p2, pe, pos, pos2, pos3, q1, q2, q3, rfl, lk, hcd, lcd, hvs, hfile, lcc, hD, hself, e1, e2, S, hsu, hev⟩ := F.ex
  have inK : K.In s.heap := e0.mod.kin.keeps fun b o z => (e0.bs b o z).1
  have nolim : s.heap.NoLimit := e0.mod.nolimit.keeps fun b o z => (e0.bs b o z).1
  have hcell : s.heap.IsCell cc (some (.ref D)) := ⟨_, inK _ _ lcc, rfl⟩
  have Hcc : H cc = none := (e0.bs _ _ (e0.mod.kin _ _ lcc)).2
  have CA : CellsAt [(("__class__" : Str), cc)] ["__class__"] [some (.ref D)] s.heap H := by
    have lu : ∀ x c, ([(("__class__" : Str), cc)] : List (Str × Addr)).lookup x = some c → x = "__class__" ∧ c = cc := fun x c z => by
      rw [List.lookup_cons] at z
      split at z
      · rename_i q
        exact ⟨beq_iff_eq.mp q, (Option.some.inj z).symm⟩
      · cases z
    refine ⟨rfl, fun x c z => ?_, fun x y c z1 z2 => by rw [(lu x c z1).1, (lu y c z2).1], fun i x z => ?_⟩
    · obtain ⟨_, rfl⟩ := lu x c z
      exact ⟨Hcc, _, hcell⟩
    · match i, z with
      | 0, z =>
        cases z
        exact ⟨cc, rfl, fun v z => by cases z; exact ⟨.ref D, rfl, hcell⟩⟩
      | i + 1, z => simp at z
  have hr2 : us.length = 2 := by rw [← r.length]; rfl
  refine ks_codeAny_call_defAt hr.depth (inK _ _ lk) rfl nolim (codeRec_of inK hcd) rfl bb S.nocell (fun ⟨n, _⟩ hy => S.par n (List.of_mem_zip hy).1) (fun h₀ hns keep => ?_) S.co S.gen S.kind
  let NFv : NF := ⟨name, qual, params, [st1, st2], scope, [("__class__", cc)], cda⟩
  have I : L2.Inv (ncx CX P w K mg base nI NFv f A outer s H E) [] (startF nI [.ref a, y] [some (.ref D)]) H { s with heap := h₀, toks := s.toks + (pI.zip us).length } :=
    inv_startN (F := NFv) S hr.hd e0 rfl r CA hns keep
  show PySem.wpAt (model P w) (ncx CX P w K mg base nI NFv f A outer s H E).A (.func [st1, st2] (envF NFv f s.heap.objs.size)) (execs [st1, st2] (envF NFv f s.heap.objs.size)) _ (ncx CX P w K mg base nI NFv f A outer s H E).xe _
  obtain ⟨⟨pl, he⟩, hs1, hs2⟩ := hev (envF NFv f s.heap.objs.size)
  cases r with
  | @cons _ ua _ ur ra rr =>
  cases (show ua = Value.ref a from ra)
  obtain ⟨ar, har1, har2⟩ := Option.map_eq_some_iff.mp hself
  have st0 : (startF nI [.ref a, y] [some (V.ref D)])[0]? = some (some (.ref a)) := rfl
  have st1 : (startF nI [.ref a, y] [some (V.ref D)])[1]? = some (some y) := rfl
  have lself : scope.names.lookup ("self" : Str) = some .local := S.par _ (by simp)
  have lval : scope.names.lookup ("value" : Str) = some .local := S.par _ (by simp)
  have lcl : scope.names.lookup ("__class__" : Str) = some .free := S.frk _ (by simp)
  subst e1 e2
  refine ks_wpAt_execs_cons (ks_wpAt_Expr_any (prog := P) (w := w) (ks_wpAt_MethodCall (pl := pl) ?_ he) (by have := L2.Inv.quiet I; exact this) hs1)
  refine hear_super (X := ncx CX P w K mg base nI NFv f A outer s H E) I EC ea rfl st0 lself lk har1 har2 rfl rfl lcd hvs hfile lcc rfl hD hms hsu lcl htop hboot fun so s2 I2 hso => ?_
  refine init_meth (X := ncx CX P w K mg base nI NFv f A outer s H E) I2 EC ea hso ho fun q s3 I3 hq3 hq4 => ?_
  have I4 : L2.Inv (ncx CX P w K mg base nI NFv f A outer s H E) [(q, kxs_mw "ValueError.__init__" a)] (startF nI [.ref a, y] [some (V.ref D)]) H s3 :=
    I3.pins_of fun p hp => by
      rw [List.mem_singleton] at hp
      subst hp
      exact ⟨hq3, hq4.1, hq4.2.1, hq4.2.2, fun v z => by cases z⟩
  have sE : starEach [(.Name "value" pe : Expr)] (envF NFv f s.heap.objs.size) = (false, eval (.Name "value" pe) (envF NFv f s.heap.objs.size)) :: starEach [] (envF NFv f s.heap.objs.size) := rfl
  rw [sE]
  refine kxs_callWith (i := "ValueError.__init__") (x := a) rfl (evalArgs_plain ?_)
  have ev := (pa_cons (pe_var (X := ncx CX P w K mg base nI NFv f A outer s H E) (i := 1) (x := "value") (pos := pe) rfl (.inl lval)) pa_nil).run pos [(q, kxs_mw "ValueError.__init__" a)] s3 (startF nI [.ref a, y] [some (V.ref D)]) H (fun vs H1 => vs = [y] ∧ H1 = H) I4 ⟨y, rfl, rfl, rfl⟩
  refine wpAny_mono ev (fun us4 s4 hh => ?_) fun _ _ z => z
  obtain ⟨vs4, H4, J4, r4, rfl, rfl⟩ := hh
  have hq5 : s4.heap.get? q = some (kxs_mw "ValueError.__init__" a) := (J4.pin _ (List.mem_append_right _ List.mem_cons_self)).1
  have l4 : us4.length ≤ sizeLine := by rw [← r4.length, sizeLine_eq]; simp
  refine ⟨hq5, init_called (X := ncx CX P w K mg base nI NFv f A outer s H4 E) (J4.pins_of (pins' := []) fun p hp => absurd hp (by simp)) EC ea hq5 l4 fun s5 J5 => ?_⟩
  -- self.value = value
  have fin : ∀ {σ' : L2.St} {H' : Hp} {s' : Shared} {v : V} {u : Value}, L2.Inv (ncx CX P w K mg base nI NFv f A outer s H4 E) [] σ' H' s' → L2.RelV v u → Q v H' → CE outer P w H4 s Q u s' :=
    fun {σ' H' s' v u} J rv q => ⟨v, H', J.os, J.bare, J.base, J.hok, rv, q⟩
  have set_ := (pss_one (ps_ost (X := ncx CX P w K mg base nI NFv f A outer s H4 E) (f := "value") (p' := q2) (pos := pos3) (o := .Name "self" q1) (e := .Name "value" q3) (pe_var (i := 0) rfl (.inl lself)) (pe_var (i := 1) rfl (.inl lval)) hs2)).run [] s5 (startF nI [.ref a, y] [some (V.ref D)]) H4
    { nx := fun _ H' => Q .non H', rt := fun _ _ => False, bk := fun _ _ => False, ct := fun _ _ => False } J5 ⟨y, rfl, .ref a, rfl, a, C, rfl, EC.oex, EC.noval, .inl ⟨ea, fun dx h1 h2 => hq dx h1 h2⟩⟩
  refine PySem.wpAt_of_wpAny (wpAny_mono set_ (fun fl s6 hs => ?_) fun e s6 z => z)
  cases fl with
  | next =>
    obtain ⟨σ', H', J, q⟩ := hs
    exact fin (v := V.non) (u := Value.none) J rfl q
  | ret u => obtain ⟨_, _, _, _, _, z⟩ := hs; exact z.elim
  | brk => obtain ⟨_, _, _, z⟩ := hs; exact z.elim
  | cont => obtain ⟨_, _, _, z⟩ := hs; exact z.elim
end IR
end

section
set_option Elab.async false
set_option linter.all false
set_option autoImplicit false
set_option maxRecDepth 100000
set_option maxHeartbeats 4000000
/-! own errors as values -/
namespace IR
open PySem PySem.W PySem.Calls PySem.Spec PyProof.Rows L2
section
variable {X : Cx} {pins : List (Addr × Obj)} {σ : L2.St} {H : Hp} {s : Shared} {a C d : Addr} {oe : Obj} {vs : Array Value}
theorem exv_ok {P : Program} {w : World} {h : PySem.Heap} (he : h.get? a = some oe) (hz : Zc (.ref C) (some d) oe) (hd : oe.data = .fields vs) : ObjOk P w H h a (exv a C d) :=
  ⟨⟨oe, vs, he, hz.1, hz.2, hd⟩, ⟨oe, he⟩, fun h1 h2 ⟨o, ws, e1, e2, e3, e4⟩ k => ⟨o, ws, k o e1, e2, e3, e4⟩⟩
theorem exv_at (I : L2.Inv X pins σ H s) (e : H a = some (exv a C d)) : ∃ (o : Obj) (ws : Array Value), s.heap.get? a = some o ∧ Zc (.ref C) (some d) o ∧ o.data = .fields ws := by
  obtain ⟨⟨o, ws, e1, e2, e3, e4⟩, _⟩ := (show ObjOk X.prog X.w H s.heap a (exv a C d) from I.hok a _ e)
  exact ⟨o, ws, e1, ⟨e2, e3⟩, e4⟩
/-- an error that nobody knew is known -/
theorem adopt (I : L2.Inv X pins σ H s) (he : s.heap.get? a = some oe) (hz : Zc (.ref C) (some d) oe) (hd : oe.data = .fields vs) (na : H a = none) (nL : a ≠ X.env.locals) (n0 : X.s_0.heap.get? a = none) (np : ∀ p ∈ X.pn ++ pins, p.1 ≠ a) :
    L2.Inv X pins σ (upd H a (exv a C d)) s := by
  have ne : ∀ {b : Addr} {o : HO}, H b = some o → b ≠ a := fun {b o} e z => by subst z; rw [na] at e; cases e
  have old : ∀ {b : Addr} {o : HO}, H b = some o → upd H a (exv a C d) b = some o := fun {b o} e => by rw [upd_ne (ne e)]; exact e
  refine ⟨I.ok, I.os, I.bare, ⟨I.base.keep, I.base.slot, fun b o e n hx => ?_, I.base.there, fun b xs e => old (I.base.tups b xs e), fun b o u e => old (I.base.frzs b o u e), fun b ps e => ?_⟩, I.loc, I.cell, ?_, fun x c e => ?_, fun p hp => ?_, fun b o e => ?_, I.len⟩
  · have : b ≠ a := fun z => by subst z; rw [n0] at e; cases e
    rw [upd_ne this]; exact I.base.free b o e n hx
  · obtain ⟨more, q⟩ := I.base.tbls b ps e
    exact ⟨more, old q⟩
  · rw [upd_ne (Ne.symm nL)]; exact I.free
  · have : c ≠ a := fun z => by
      subst z
      obtain ⟨v, o, e1, e2⟩ := I.cell x _ e
      rw [he] at e1; cases e1
      rw [hd] at e2; cases e2
    rw [upd_ne this]; exact I.freeC x c e
  · obtain ⟨h1, h2, h3⟩ := I.pin p hp
    exact ⟨h1, by rw [upd_ne (np p hp)]; exact h2, h3⟩
  · by_cases hb : b = a
    · subst hb
      rw [upd_same] at e; cases e
      exact exv_ok he hz hd
    · rw [upd_ne hb] at e
      refine (I.hok b o e).stay (fun c u _ q => q) (fun c q => old q) fun c xs q => old q
/-- an error that is made, as a value -/
def tErr (t : L2.St → Hp → XK → Prop) : TE := fun σ H Q => t σ H fun cls dd H' => ∃ C d, cls = .ref C ∧ dd = some d ∧ ∀ a, H' a = none → Q (.ref a) (upd H' a (exv a C d))
theorem pe_made {e : Expr} {t : L2.St → Hp → XK → Prop} (m : PMk X e t) (hex : X.ex = []) : PE X e (tErr t) := by
  refine ⟨fun pins s σ H Q I h => ?_⟩
  refine wpAny_mono (m pins s σ H _ I h) (fun u s1 hh => ?_) fun _ _ z => z
  obtain ⟨a, oe, vs, sI, H', cls, dd, rfl, J, k, hne, he, hz, hd, h1, na, os, ag, r, C, d, rfl, rfl, q⟩ := hh
  have J1 : L2.Inv X pins σ H' s1 := by
    have := J.kept (t' := s1.toks) k
    refine ⟨this.ok, os.trans J.os, ag, this.base, this.loc, this.cell, this.free, this.freeC, this.pin, this.hok, this.len⟩
  have n0 : X.s_0.heap.get? a = none := by
    cases z : X.s_0.heap.get? a with
    | none => rfl
    | some o =>
      obtain ⟨o', e'⟩ := J.base.there a o z (by rw [hex]; simp)
      rw [hne] at e'; cases e'
  refine ⟨.ref a, upd H' a (exv a C d), adopt J1 he hz hd na (fun z => ?_) n0 (fun p hp z => ?_), rfl, q a na⟩
  · obtain ⟨m, ⟨o, es, ep, e1, _⟩, _⟩ := J.loc
    rw [← z, hne] at e1; cases e1
  · have := (J.pin p hp).1
    rw [z, hne] at this; cases this
end
end IR
end

section
set_option Elab.async false
set_option linter.all false
set_option autoImplicit false
set_option maxRecDepth 100000
set_option maxHeartbeats 4000000
/-! own errors as values: err.value, isinstance(err, c) -/
namespace IR
open PySem PySem.W PySem.Calls PySem.Spec PyProof.Rows L2
section
variable {prog : Program} {w : World} {A : Around} {E : Value → Shared → Prop} {s : Shared} {K : PySem.W.Frag} {x D : Addr} {ox od : Obj}
/-- what the written part says of a class of errors -/
structure LookC (K : PySem.W.Frag) (D : Addr) : Prop where
  xc : ExcC K D
  noval : findIn K (.ref D) "value" = some none
theorem cls_of_err {Q : Option Value → Shared → Prop} (c : ExcC K D) (kin : K.In s.heap) (I : InstAt s.heap x ox D (some od)) (h : Q (some (.ref D)) { s with toks := s.toks + 1 }) : wpAny (model prog w) A (getAttr? (.ref x) "__class__") Q E s := by
  have found : findObj K D (some od) "__class__" = some (.bind (.builtin "getset_descriptor.__get__") (.builtin "object.__class__")) :=
    findObj_data (by obtain ⟨cd, hc, _⟩ := any_some c.hd; rw [hc] <;> rfl) c.ha c.hn c.ht
  obtain ⟨hp, g, dr, t, os⟩ := s
  have l0 := I.type (M := model prog w)
  have l1 := looks_findIn (M := model prog w) kin c.hg
  have l2 := looks_findIn (M := model prog w) kin c.hk
  have l3 := looks_find (M := model prog w) kin I found
  have isE : Looks (model prog w) hp (isInstance (.ref x) (.type "BaseException")) true := l0.andThen (looks_subIn kin c.hs)
  have n2 : (Value.builtin "BaseException.__getattribute__" == Value.builtin "object.__getattribute__") = false := by decide +kernel
  have n1 : (onTheHeap (Value.ref D) && Value.builtin "BaseException.__getattribute__" == Value.builtin "object.__getattribute__") = false := by rw [n2] <;> rfl
  unfold getAttr? getAttrBy? getAttrBy
  refine wpAny_bind (wpAny_mkText (wpAny_bind (wpAny_attempt (wpAny_holding (wpAny_bind (l0.at (wpAny_bind (l1.at ?_))))))))
  show wpAny _ _ (if (onTheHeap (Value.ref D) && Value.builtin "BaseException.__getattribute__" == Value.builtin "object.__getattribute__") = true then _ else _) _ _ _
  rw [n1, if_neg Bool.false_ne_true]; unfold getAttrByItsOwn hookBefore
  refine wpAny_bind ?_
  rw [if_pos (show onTheHeap (Value.ref D) = true from rfl)]; refine l2.at (wpAny_bind (wpAny_attempt (wpAny_holding ?_)))
  unfold callGetattribute; rw [show (false && onTheHeap (Value.builtin "BaseException.__getattribute__")) = false from rfl, if_neg Bool.false_ne_true]
  unfold boundAndCalled; rw [PySem.F.excAttr_ValueError.ga.bind (.ref x)]
  refine wpAny_bind (wpAny_pure ?_)
  show wpAny _ _ (call (.builtin "BaseException.__getattribute__") [.ref x, .str "__class__" t]) _ _ _
  refine wpAny_call (codeAny_call_builtin PySem.F.excAttr_ValueError.ga.plain PySem.F.entry_bexc_ga (@check_slot (model prog w) _ _ ⟨hp, g, dr, t + 1, os⟩ "BaseException.__getattribute__" "BaseException" "__getattribute__" (.ref x) [.str "__class__" t] [] _ (by decide +kernel) (by decide +kernel) isE (PySem.F.args_bexc_ga (.ref x) (.str "__class__" t)) ?_))
  unfold Builtin.«object.__getattribute__»
  refine wpAny_bind (wpAny_of_eq (a := ((Value.ref x : Value), [Value.str "__class__" t])) (by first | rfl | (simp only [slotArgs]; rfl)) (wpAny_bind (wpAny_pure (wpAny_bind (l0.at (wpAny_bind (l3.at ?_)))))))
  show wpAny _ _ (holding [Value.builtin "object.__class__"] (call (.builtin "getset_descriptor.__get__") [.builtin "object.__class__", .ref x, .ref D]) >>= ret) _ _ _
  refine wpAny_bind (wpAny_holding (wpAny_call (class_get (s := ⟨hp, g, dr, t + 1, os⟩) (ox := ox) (od := some od) kin I c.hm (wpAny_pure ?_))))
  show wpAny _ _ (handedOut (.ref D)) _ _ _
  rw [handedOut_of (v := .ref D) rfl]
  first
    | exact wpAny_pure (wpAny_pure h)
    | exact wpAny_pure h
    | exact wpAny_pure (wpAny_bind (wpAny_pure (wpAny_pure h)))
theorem kit_err (c : ExcC K D) : KitX K (.ref x) (.ref D) (fun h => InstAt h x ox D (some od)) := by
  obtain ⟨cdD, hcD, _⟩ := any_some c.hd
  obtain ⟨c', d', cd', sl', ho⟩ : ∃ c' d' cd' sl', K.lookup D = some ⟨c', d', .cls cd', sl'⟩ := by
    unfold clsIn at hcD
    split at hcD
    · rename_i c' d' cd' sl' ho
      exact ⟨_, _, _, _, ho⟩
    · cases hcD
  refine ⟨fun _ _ _ I => I.type, fun _ _ kin _ A' Q' E' s' k q => ?_, fun h tp dd its n sl kin htp => Bool.eq_false_iff.mpr fun q => ?_, fun kin I k => cls_of_err c kin I k⟩
  · unfold isType loadHead
    exact wpAny_bind (wpAny_loadPart (k _ _ (kin _ _ ho)) (wpAny_pure q))
  · cases Value.ref.inj (beq_iff_eq.mp q)
    cases (kin _ _ ho).symm.trans htp
end
section
variable {X : Cx} {pins : List (Addr × Obj)} {σ : L2.St} {H : Hp} {s : Shared}
theorem err_inst {a C d : Addr} {fs : List (Str × V)} (I : L2.Inv X pins σ H s) (ea : H a = some (exv a C d)) (ed : H d = some (.xd fs)) :
    ∃ o od mA, InstAt s.heap a o C (some od) ∧ s.heap.Ns1 d mA ∧ (∀ f, RelO (fs.lookup f) (mA f)) ∧ s.heap.get? d = some od ∧ ∀ name, lookIn name od = some (mA name) := by
  obtain ⟨o, ws, e1, e2, e3⟩ := exv_at I ea
  obtain ⟨mA, hns, hr⟩ := (show ObjOk X.prog X.w H s.heap d (.xd fs) from I.hok d _ ed)
  obtain ⟨od, ho, hl⟩ := lookIn_ns hns
  exact ⟨o, od, mA, ⟨e1, e2.1, by unfold notCls; rw [e3] <;> rfl, by rw [e2.2]; exact ho⟩, hns, hr, ho, hl⟩
/-- isinstance(err, c) -/
def rIsV (K : PySem.W.Frag) : List V → Hp → VK → Prop := fun xs H Q => ∃ (a C d : Addr) (fs : List (Str × V)) (cv : V) (cu : Value) (b : Bool), xs = [.ref a, cv] ∧ H a = some (exv a C d) ∧ H d = some (.xd fs) ∧ ExcC K C ∧ ClsV cv cu ∧ kitOne K (.ref C) cu = some b ∧ Q (.bl b) H
theorem call_isV : CallR X (.builtin "isinstance") (rIsV X.K) := by
  intro pins s σ H xs us Q I r ⟨a, C, d, fs, cv, cu, b, e, ea, ed, c, k, kb, q⟩
  subst e
  obtain ⟨u1, u2, rfl, r1, r2⟩ := vals2 r
  cases (show u1 = Value.ref a from r1)
  cases k.eq r2
  obtain ⟨o, od, mA, J, _⟩ := err_inst I ea ed
  exact kia_one (kit_err c) I.kIn J kb (fun z => nomatch z) fun tk => ⟨.bl b, H, I.kept (t' := tk) fun _ _ z => z, rfl, q⟩
/-- both kinds of things -/
theorem call_isB : CallR X (.builtin "isinstance") (fun xs H Q => rIsi X.K xs H Q ∨ rIsV X.K xs H Q) := by
  intro pins s σ H xs us Q I r h
  rcases h with h | h
  · exact call_isi pins s σ H xs us Q I r h
  · exact call_isV pins s σ H xs us Q I r h
/-- err.value -/
def tVal (K : PySem.W.Frag) (f : Str) (te : TE) : TE := fun σ H Q => te σ H fun x H1 => ∃ (a C d : Addr) (fs : List (Str × V)) (v : V), x = .ref a ∧ H1 a = some (exv a C d) ∧ ExcC K C ∧ findIn K (.ref C) f = some none ∧ H1 d = some (.xd fs) ∧ fs.lookup f = some v ∧ Q v H1
theorem pe_val {e : Expr} {te : TE} {pos : Pos} {n : Str} (he : PE X e te) (hb : attributeBase e n X.env (eval e X.env) = eval e X.env := by rfl) : PE X (.Attribute e n pos) (tVal X.K n te) := by
  refine ⟨fun pins s σ H Q I h => attr_of hb (thn (he.run pins s σ H _ I h) fun u s1 hh => ?_)⟩
  obtain ⟨x, H1, I1, rx, a, C, d, fs, v, ex, ea, c, hno, ed, l, q⟩ := hh
  subst ex
  cases (show u = Value.ref a from rx)
  obtain ⟨o, od, mA, J, _, hr, _, hl⟩ := err_inst I1 ea ed
  obtain ⟨uv, hu, ru⟩ := RelO.some_of (v := v) (o := mA n) (by rw [← l]; exact hr n)
  exact HandSPX.exc_get I1.kIn J c.hg c.hk c.hs (findObj_own c.hd hno rfl (by rw [hl, hu])) (handed_of ru) ⟨v, H1, I1.tok _, ru, q⟩
end
end IR
end

section
set_option Elab.async false
set_option linter.all false
set_option autoImplicit false
set_option maxRecDepth 100000
set_option maxHeartbeats 4000000
/-! try: several except clauses, with names or without; what is caught is known from then on -/
namespace IR
open PySem PySem.W PySem.Calls PySem.Spec PyProof.Rows L2
def goneD (oi : Option Nat) (D : Ends) : Ends := match oi with
  | none => D
  | some i => { nx := fun σ' H' => D.nx (σ'.set i none) H', rt := D.rt, bk := fun σ' H' => D.bk (σ'.set i none) H', ct := fun σ' H' => D.ct (σ'.set i none) H' }
def putE (oi : Option Nat) (a : Addr) (σ : L2.St) : L2.St := match oi with
  | none => σ
  | some i => σ.set i (some (.ref a))
/-- what the clauses wish of an error of the body -/
def wE (K : PySem.W.Frag) (Wout : WX) (D : Ends) : List (Value × Option Nat × TS) → WX
  | [] => Wout
  | (c, oi, ts) :: r => fun cls d σ H => ∃ b, exmOne K cls c = some b ∧ (b = true → ∃ C dx, cls = .ref C ∧ d = some dx ∧ ∀ a, H a = none → ts (goneD oi D) (putE oi a σ) (upd H a (exv a C dx))) ∧ (b = false → wE K Wout D r cls d σ H)
inductive HdsE (X : Cx) : List ExceptHandler → List (Value × Option Nat × TS) → Prop
  | nil : HdsE X [] []
  | one {x : Str} {c : Value} {ts : TS} {b₀ : Stmt} {rest : List Stmt} {np pos' : Pos} {hds : List ExceptHandler} {l : List (Value × Option Nat × TS)} (hc : Names X x c) (hsu : ∀ (a : Addr) (pn : List (Addr × Obj)), PSs (X.suite a pn) (b₀ :: rest) ts) (r : HdsE X hds l) :
      HdsE X (.ExceptHandler (some (.Name x np)) none (b₀ :: rest) pos' :: hds) ((c, none, ts) :: l)
  | nam {x n : Str} {i : Nat} {c : Value} {ts : TS} {b₀ : Stmt} {rest : List Stmt} {np pos' : Pos} {hds : List ExceptHandler} {l : List (Value × Option Nat × TS)} (hN : X.N.Nodup) (hi : X.N[i]? = some n) (hln : X.env.kindOf n = some .local) (hc : Names X x c)
      (hsu : ∀ (a : Addr) (pn : List (Addr × Obj)), PSs (X.suite a pn) (b₀ :: rest) ts) (r : HdsE X hds l) :
      HdsE X (.ExceptHandler (some (.Name x np)) (some n) (b₀ :: rest) pos' :: hds) ((c, some i, ts) :: l)
section
variable {X : Cx} {pins : List (Addr × Obj)} {σ : L2.St} {H : Hp} {s : Shared}
theorem inSuite (I : L2.Inv X pins σ H s) (a : Addr) : L2.Inv (X.suite a (X.pn ++ pins)) [] σ H s :=
  ⟨I.ok.suite _ _, I.os, I.bare, I.base, I.loc, I.cell, I.free, I.freeC, fun p hp => I.pin p (by simpa using hp), I.hok, I.len⟩
theorem outSuite {a : Addr} {pn' : List (Addr × Obj)} (I : L2.Inv (X.suite a (X.pn ++ pins)) pn' σ H s) (ok : X.Ok) : L2.Inv X pins σ H s :=
  ⟨ok, I.os, I.bare, I.base, I.loc, I.cell, I.free, I.freeC, fun p hp => I.pin p (List.mem_append_left _ hp), I.hok, I.len⟩
variable {body : List Stmt} {h₀ : ExceptHandler} {hds : List ExceptHandler} {l : List (Value × Option Nat × TS)} {pos : Pos} {tb : WX → TS} {Wout : WX}
theorem ps_tryE (hs : X.stack = X.env :: X.outer) (hf : X.env.frame = some X.env.locals) (hex : X.ex = []) (tk : Takes X Wout)
    (hb : ∀ (W : WX) (pn : List (Addr × Obj)) (xe : Value → Shared → Prop), Takes (X.tr pn xe) W → PassesOwn (model X.prog X.w) X.A X.env xe → PSs (X.tr pn xe) body (tb W))
    (hh : HdsE X (h₀ :: hds) l) : PS X (.Try body (h₀ :: hds) [] [] pos) (fun D σ H => tb (wE X.K Wout D l) D σ H) := by
  refine ⟨fun pins s σ H D I h => wpAny_Try_except ?_⟩
  have ok := I.ok
  have hfr : X.A.frames = some (X.env :: X.outer) := by rw [ok.frames, hs]
  refine wpAny_mono ((hb (wE X.K Wout D l) (X.pn ++ pins) (fun e s₁ => wpAny (model X.prog X.w) X.A (noteFrame e X.env) (fun _ s₂ => wpAny (model X.prog X.w) X.A (setFlight e none) (fun _ s₃ => wpAny (model X.prog X.w) X.A (handleBy e X.env (h₀ :: hds)) (SP X pins D) X.xe s₃) X.xe s₂) X.xe s₁)
    (fun u s' xx => ?_) PassesOwn.looking).run [] s σ H D (I.toTry _) h) (fun f s1 hsp => ?_) (fun e s1 he => he)
  · obtain ⟨a, B, sI, pins', σ', H', cls, d, rfl, J', nb, up, sky, na, os, ag, w⟩ := xx
    have J : L2.Inv X pins σ' H' sI := J'.ofTry ok
    have sky' : Sky B (X.env :: X.outer) a (Zc cls d) X.env.locals s'.heap := by rw [← hs]; exact sky
    show wpAny (model X.prog X.w) X.A (noteFrame (.ref a) X.env) _ _ _
    refine Sky.land Zc.steady hfr hf sky' fun h3 fl3 up3 => ?_
    have J3 : L2.Inv X pins σ' H' { s' with heap := h3 } := J.landed nb fl3.1 (up.trans up3) os ag
    obtain ⟨oe3, vs3, he3, hz3, hd3⟩ := fl3.there
    have nfr : a ∉ frs (X.env :: X.outer) := fun hm => by
      obtain ⟨_, o', e', hnf⟩ := fl3.2.2.1.mem hm
      rw [he3] at e'; cases e'
      exact hnf _ hd3
    have nL : a ≠ X.env.locals := fun z => nfr (List.mem_filterMap.mpr ⟨X.env, List.mem_cons_self, by rw [hf, z]⟩)
    have gone : ∀ {b : Addr} {o : Obj}, sI.heap.get? b = some o → b ≠ a := fun {b o} e z => by
      subst z
      have q := nb b o e (by rw [hs]; exact nfr)
      rw [fl3.2.1] at q; cases q
    have n0 : X.s_0.heap.get? a = none := by
      cases z : X.s_0.heap.get? a with
      | none => rfl
      | some o =>
        obtain ⟨o', e'⟩ := J.base.there a o z (by rw [hex]; simp)
        exact absurd rfl (gone e')
    have npn : ∀ p ∈ X.pn ++ pins, p.1 ≠ a := fun p hp => gone (J.pin p hp).1
    have S3 := inSuite J3 a
    have go : ∀ {hds' : List ExceptHandler} {l' : List (Value × Option Nat × TS)}, HdsE X hds' l' → wE X.K Wout D l' cls d σ' H' → wpAny (model X.prog X.w) X.A (handleBy (.ref a) X.env hds') (SP X pins D) X.xe { s' with heap := h3 } := by
      intro hds' l' hk
      have test : ∀ {x : Str} {c : Value} {np : Pos} {Q : Value → Shared → Prop} {E : Value → Shared → Prop}, Names X x c → Q c { s' with heap := h3 } → wpAny (model X.prog X.w) (X.A.mark (some (.ref a))) (eval (.Name x np) X.env) Q E { s' with heap := h3 } := fun {x c np Q E} hc q => by
        obtain ⟨hg, hdbg, hm | ⟨hm, hv, hnn⟩⟩ := hc
        · exact ld_glob (X := X.suite a (X.pn ++ pins)) S3 hg hm q hdbg
        · exact ld_blt (X := X.suite a (X.pn ++ pins)) S3 hg hm hv q hnn hdbg
      have lt : Looks (model X.prog X.w) h3 (typeOf (.ref a)) cls := fun A Q E s k q => wpAny_typeOf_ref (k _ _ he3) (by rw [hz3.1]; exact q)
      induction hk with
      | nil =>
        intro w
        obtain ⟨k1, k2, k3, oe, vs, T, oT, ts', he, hz, hd, h1, hr⟩ := id fl3
        refine wpAny_handleBy_nil ?_
        unfold PySem.passOn
        refine wpAny_bind (wpAny_field he hd h1 ?_)
        rw [if_neg (show ¬ ((Value.ref T == Value.none) = true) from by simp)]
        have fin : wpAny (model X.prog X.w) X.A (setFlight (.ref a) X.env.frame) (fun _ s4 => wpAny (model X.prog X.w) X.A (throw (.ref a) : Sem PySem.Flow) (SP X pins D) X.xe s4) X.xe { s' with heap := h3 } := by
          rw [hf]
          exact HandSPX.setFlight_upZ fl3 fun h4 hh4 up4 => wpAny_throw (tk _ _ ⟨a, B, sI, pins, σ', H', cls, d, rfl, J, nb, (up.trans up3).trans up4, .inr (.inr (by rw [hs]; exact hh4)), na, os, ag, w⟩)
        first
          | exact wpAny_bind (wpAny_pure (wpAny_bind fin))
          | exact wpAny_bind fin
      | @one x c ts b₀ rest np pos' hds2 l2 hc hsu r ih =>
        intro w
        obtain ⟨b, hb1, hyes, hno⟩ := w
        have lm := exm_one (M := model X.prog X.w) J3.kIn lt hb1
        refine wpAny_handleBy_cons (codeAny_handlers_test (test hc (lm.here ?_))) (by intro q; cases q)
        cases b with
        | false => exact ih (hno rfl)
        | true =>
          obtain ⟨C, dx, rfl, rfl, k⟩ := hyes rfl
          refine codeAny_handlers_suite (HandSPX.lands_againZ fl3 fun h4 fl4 up4 => ?_)
          have J4 : L2.Inv X pins σ' H' { s' with heap := h4 } := J.landed nb fl4.1 ((up.trans up3).trans up4) os ag
          obtain ⟨oe4, vs4, he4, hz4, hd4⟩ := fl4.there
          have S4 := inSuite (adopt J4 he4 hz4 hd4 na nL n0 npn) a
          refine wpAny_mono ((hsu a (X.pn ++ pins)).run [] _ _ _ _ S4 (k a na)) (fun f s6 hsp => ?_) (fun _ _ z => z.elim)
          cases f with
          | next => obtain ⟨σ6, H6, S6, q6⟩ := hsp; exact ⟨_, _, outSuite S6 ok, q6⟩
          | brk => obtain ⟨σ6, H6, S6, q6⟩ := hsp; exact ⟨_, _, outSuite S6 ok, q6⟩
          | cont => obtain ⟨σ6, H6, S6, q6⟩ := hsp; exact ⟨_, _, outSuite S6 ok, q6⟩
          | ret u => obtain ⟨v6, σ6, H6, S6, r6, q6⟩ := hsp; exact ⟨_, _, _, outSuite S6 ok, r6, q6⟩
      | @nam x n i c ts b₀ rest np pos' hds2 l2 hN hi hln hc hsu r ih =>
        intro w
        obtain ⟨b, hb1, hyes, hno⟩ := w
        have lm := exm_one (M := model X.prog X.w) J3.kIn lt hb1
        refine wpAny_handleBy_cons (codeAny_handlers_test (test hc (lm.here ?_))) (by intro q; cases q)
        cases b with
        | false => exact ih (hno rfl)
        | true =>
          obtain ⟨C, dx, rfl, rfl, k⟩ := hyes rfl
          refine codeAny_handlers_suite_as (HandSPX.lands_againZ fl3 fun h4 fl4 up4 => ?_)
          have J4 : L2.Inv X pins σ' H' { s' with heap := h4 } := J.landed nb fl4.1 ((up.trans up3).trans up4) os ag
          obtain ⟨oe4, vs4, he4, hz4, hd4⟩ := fl4.there
          have S4 := inSuite (adopt J4 he4 hz4 hd4 na nL n0 npn) a
          refine store_ok (X := X.suite a (X.pn ++ pins)) (v := .ref a) S4 hN hi (.inl hln) rfl (fun s5 S5 => ?_) (.inr hln)
          refine wpAny_mono ((hsu a (X.pn ++ pins)).run [] s5 _ _ _ S5 (k a na)) (fun f s6 hsp => ?_) (fun _ _ z => z.elim)
          have end_ : ∀ {σ6 : L2.St} {H6 : Hp} {Q : Shared → Prop}, L2.Inv (X.suite a (X.pn ++ pins)) [] σ6 H6 s6 → (∀ s7, L2.Inv X pins (σ6.set i none) H6 s7 → Q s7) → wpAny (model X.prog X.w) X.A (do bindName X.env n .none; unbindBehindTheSuite X.env n pos') (fun _ s7 => Q s7) X.xe s6 :=
            fun {σ6 H6 Q} S6 hq => gone_ok (outSuite S6 ok) hN hi hln hq
          cases f with
          | next => obtain ⟨σ6, H6, S6, q6⟩ := hsp; exact end_ S6 fun s7 J7 => ⟨_, _, J7, q6⟩
          | brk => obtain ⟨σ6, H6, S6, q6⟩ := hsp; exact end_ S6 fun s7 J7 => ⟨_, _, J7, q6⟩
          | cont => obtain ⟨σ6, H6, S6, q6⟩ := hsp; exact end_ S6 fun s7 J7 => ⟨_, _, J7, q6⟩
          | ret u => obtain ⟨v6, σ6, H6, S6, r6, q6⟩ := hsp; exact end_ S6 fun s7 J7 => ⟨_, _, _, J7, r6, q6⟩
    exact go hh w
  · cases f with
    | next => obtain ⟨σ', H', J', q⟩ := hsp; exact wpAny_execs_nil ⟨σ', H', J'.ofTry ok, q⟩
    | brk => obtain ⟨σ', H', J', q⟩ := hsp; exact ⟨σ', H', J'.ofTry ok, q⟩
    | cont => obtain ⟨σ', H', J', q⟩ := hsp; exact ⟨σ', H', J'.ofTry ok, q⟩
    | ret u => obtain ⟨v, σ', H', J', r, q⟩ := hsp; exact ⟨v, σ', H', J'.ofTry ok, r, q⟩
end
end IR
end

section
set_option Elab.async false
set_option linter.all false
set_option autoImplicit false
set_option maxRecDepth 100000
set_option maxHeartbeats 4000000
/-! operations by values -/
namespace IR
open PySem PySem.Spec PyProof.Rows L2
section
variable {W : Wd} {α : List Addr} {H : Hp} {h : IR.Heap} {E : XK} {Q : VK} {K : PySem.W.Frag}
theorem r_int {i : Int} : Rep K α H (.int i) (.int i) := by simp only [Rep]
theorem r_bl {b : Bool} : Rep K α H (.bl b) (.bl b) := by simp only [Rep]
theorem r_str {s : Txt} (o : okT s) : Rep K α H (.str s) (.str (toStr s)) := by unfold Rep; exact ⟨rfl, o⟩
theorem r_non : Rep K α H .non .non := by simp only [Rep]
theorem of_int {i : Int} {v : V} (r : Rep K α H (.int i) v) : v = .int i := by simpa only [Rep] using r
theorem of_bl {b : Bool} {v : V} (r : Rep K α H (.bl b) v) : v = .bl b := by simpa only [Rep] using r
theorem of_str {s : Txt} {v : V} (r : Rep K α H (.str s) v) : v = .str (toStr s) := by simp only [Rep] at r; exact r.1
theorem ok_str {s : Txt} {v : V} (r : Rep K α H (.str s) v) : okT s := by simp only [Rep] at r; exact r.2
theorem okT.app {s t : Txt} (a : okT s) (b : okT t) : okT (s ++ t) := fun c h => (List.mem_append.mp h).elim (a c) (b c)
theorem okT.nil : okT [] := fun c h => by cases h
theorem of_non {v : V} (r : Rep K α H .non v) : v = .non := by simpa only [Rep] using r
theorem of_tup {ds : List D} {v : V} (r : Rep K α H (.tup ds) v) : ∃ p vs, v = .ref p ∧ SqT K H p vs ∧ Reps K α H ds vs := by simpa only [Rep] using r
theorem of_frz {ds : List D} {v : V} (r : Rep K α H (.frz ds) v) : ∃ p vs, v = .ref p ∧ SqF K H p vs ∧ Reps K α H ds vs := by simpa only [Rep] using r
theorem of_ref {k : Nat} {v : V} (r : Rep K α H (.ref k) v) : ∃ a, α[k]? = some a ∧ v = .ref a := by simpa only [Rep] using r
theorem str_len (s : Txt) : (toStr s).length = s.length := by simp [Str.length]
theorem str_app (s t : Txt) : toStr s ++ toStr t = toStr (s ++ t) := by
  show Str.mk _ = Str.mk _
  simp
/-- a list of ours -/
theorem lst_at {k : Nat} {ds : List D} {v : V} (hc : HCorr W α h H) (r : Rep W.K α H (.ref k) v) (e : h[k]? = some (.lst ds)) : ∃ a vs, α[k]? = some a ∧ v = .ref a ∧ H a = some (.lst vs) ∧ Reps W.K α H ds vs := by
  obtain ⟨a, ea, rfl⟩ := of_ref r
  obtain ⟨vs, q, rr⟩ := hc.ob k _ a e ea
  exact ⟨a, vs, ea, rfl, q, rr⟩
/-- int, int -/
theorem s_int {op : O2} {g : Int → Int → V} (hop : ∀ x y h (P : Res D → Prop), P (op x y h) → (∃ i j z, x = .int i ∧ y = .int j ∧ P (.ok z h) ∧ g i j = (match z with | .int k => V.int k | .bl b => V.bl b | _ => V.non) ∧ (∃ b, z = .bl b ∨ ∃ k, z = .int k)) ∨ P .bad) : O2S W op (rI0 g) := by
  intro E α H h x y v w Q hc rx ry k
  rcases hop x y h (fun r => Run W (RV W) E α H Q r) k with ⟨i, j, z, rfl, rfl, k, e, b, hz⟩ | k
  · refine ⟨i, j, of_int rx, of_int ry, ?_⟩
    rcases hz with rfl | ⟨m, rfl⟩
    · rw [e]; exact Run.done k hc r_bl
    · rw [e]; exact Run.done k hc r_int
  · exact k.elim
end
section
variable {W : Wd}
theorem O2S.or {op : O2} {r r' : R2} (h : ∀ E α H h x y v w Q, HCorr W α h H → Rep W.K α H x v → Rep W.K α H y w → Run W (RV W) E α H Q (op x y h) → r v w H Q ∨ r' v w H Q) : O2S W op (fun v w H Q => r v w H Q ∨ r' v w H Q) := h
abbrev rIntB (p : Int → Int → Bool) : R2 := rI0 fun i j => .bl (p i j)
abbrev rAddS : R2 := fun x y H Q => ∃ i j, x = .str i ∧ y = .str j ∧ i.length + j.length ≤ sizeLine ∧ Q (.str (i ++ j)) H
abbrev rAddAll (K : PySem.W.Frag) : R2 := fun x y H Q => (rI0 (fun i j => .int (i + j)) x y H Q ∨ rAddS x y H Q) ∨ (rCatA K x y H Q ∨ rCat x y H Q)
theorem op_addAll {X : Cx} : OpR X (binaryOp .Add) (rAddAll X.K) := (op_add.or op_add_str).or (op_catA.or op_cat)
theorem s_add : O2S W o_add (rAddAll W.K) := by
  intro E α H h x y v w Q hc rx ry k
  cases x with
  | int i =>
    cases y with
    | int j => exact .inl (.inl ⟨i, j, of_int rx, of_int ry, Run.done k hc r_int⟩)
    | _ => exact k.elim
  | str s =>
    cases y with
    | str t =>
      simp only [o_add] at k
      obtain ⟨hl, k⟩ := Run.ite k
      exact .inl (.inr ⟨_, _, of_str rx, of_str ry, by rw [str_len, str_len, size_lim]; exact hl, by rw [str_app]; exact Run.done k hc (r_str ((ok_str rx).app (ok_str ry)))⟩)
    | _ => exact k.elim
  | tup s =>
    cases y with
    | tup t =>
      simp only [o_add] at k
      obtain ⟨hl, k⟩ := Run.ite k
      obtain ⟨p, vs, rfl, hp, r1⟩ := of_tup rx
      obtain ⟨q, us, rfl, hq, r2⟩ := of_tup ry
      refine .inr (.inl ⟨p, q, vs, us, rfl, rfl, hp, hq, by rw [← r1.length, ← r2.length, size_lim]; exact hl, fun e => ?_, fun _ e => ?_, fun _ _ l hl => ?_⟩)
      · subst e
        have : s = [] := List.eq_nil_of_length_eq_zero (by rw [r1.length]; rfl)
        subst this
        exact Run.done k hc (by simp only [RV, Rep, List.nil_append]; exact ⟨q, us, rfl, hq, r2⟩)
      · subst e
        have : t = [] := List.eq_nil_of_length_eq_zero (by rw [r2.length]; rfl)
        subst this
        exact Run.done k hc (by simp only [RV, Rep, List.append_nil]; exact ⟨p, vs, rfl, hp, r1⟩)
      · obtain ⟨le, hc2, rr⟩ := new_tup hl hc (r1.append r2)
        exact k _ _ _ le hc2 rr
    | _ => exact k.elim
  | ref a =>
    cases y with
    | ref b =>
      simp only [o_add] at k
      split at k
      · rename_i s t e1 e2
        obtain ⟨hl, k⟩ := Run.ite k
        obtain ⟨p, vs, _, rfl, hp, r1⟩ := lst_at hc rx e1
        obtain ⟨q, us, _, rfl, hq, r2⟩ := lst_at hc ry e2
        refine .inr (.inr ⟨p, q, vs, us, rfl, rfl, hp, hq, by rw [← r1.length, ← r2.length, size_lim]; exact hl, fun l hl => ?_⟩)
        obtain ⟨le, hc2, rr⟩ := new_lst hl hc (r1.append r2)
        exact k _ _ _ le hc2 rr
      · exact k.elim
    | _ => exact k.elim
  | _ => cases y <;> exact k.elim
theorem s_sub : O2S W o_sub (rI0 fun i j => .int (i - j)) := by
  intro E α H h x y v w Q hc rx ry k
  cases x with
  | int i =>
    cases y with
    | int j => exact ⟨i, j, of_int rx, of_int ry, Run.done k hc r_int⟩
    | _ => exact k.elim
  | _ => cases y <;> exact k.elim
/-- times -/
abbrev rMulS : R2 := fun x y H Q => ∃ s j, x = .str s ∧ y = .int j ∧ ((j = 0 ∧ Q (.str (toStr [])) H) ∨ (j = 1 ∧ Q (.str s) H))
theorem op_mulS {X : Cx} : OpR X (binaryOp .Mult) rMulS := by
  intro pins st σ H x y v u Q I rx ry h
  obtain ⟨s, j, rfl, rfl, q⟩ := h
  obtain ⟨t, rfl⟩ := rx
  obtain ⟨t2, rfl⟩ := ry
  rcases q with ⟨rfl, q⟩ | ⟨rfl, q⟩
  · exact PySem.P.mul_str_none (by decide) (by decide) ⟨.str (toStr []), H, I.tok _, ⟨_, rfl⟩, q⟩
  · refine PySem.P.mul_str (by decide) (fun _ z => by simp at z) (fun _ z => by simp at z) ?_
    rw [if_neg (by decide), if_pos (by simp)]
    exact ⟨.str s, H, I, ⟨_, rfl⟩, q⟩
theorem op_mulAll {X : Cx} : OpR X (binaryOp .Mult) (fun x y H Q => rI CMul (fun i j => .int (i * j)) x y H Q ∨ rMulS x y H Q) := op_mul.or op_mulS
theorem s_mul : O2S W o_mul (fun x y H Q => rI CMul (fun i j => .int (i * j)) x y H Q ∨ rMulS x y H Q) := by
  intro E α H h x y v w Q hc rx ry k
  cases x with
  | int i =>
    cases y with
    | int j =>
      simp only [o_mul] at k
      obtain ⟨hl, k⟩ := Run.ite k
      refine .inl ⟨i, j, of_int rx, of_int ry, ?_, Run.done k hc r_int⟩
      show CMul i j
      unfold CMul
      rcases hl with hl | hl
      · left; simp only [BIG] at hl; omega
      · right; simp only [BIG] at hl; omega
    | _ => exact k.elim
  | str s =>
    cases y with
    | int j =>
      simp only [o_mul] at k
      by_cases h0 : j = 0
      · rw [if_pos h0] at k
        exact .inr ⟨_, _, of_str rx, of_int ry, .inl ⟨h0, Run.done k hc (r_str okT.nil)⟩⟩
      · rw [if_neg h0] at k
        obtain ⟨h1, k⟩ := Run.ite k
        exact .inr ⟨_, _, of_str rx, of_int ry, .inr ⟨h1, Run.done k hc (r_str (ok_str rx))⟩⟩
    | _ => exact k.elim
  | _ => cases y <;> exact k.elim
theorem s_mod : O2S W o_mod (rI (fun _ j => 0 < j) fun i j => .int (i % j)) := by
  intro E α H h x y v w Q hc rx ry k
  cases x with
  | int i =>
    cases y with
    | int j =>
      simp only [o_mod] at k
      obtain ⟨hl, k⟩ := Run.ite k
      exact ⟨i, j, of_int rx, of_int ry, hl, Run.done k hc r_int⟩
    | _ => exact k.elim
  | _ => cases y <;> exact k.elim
theorem s_fdiv : O2S W o_fdiv (rI CDiv fun i j => .int (i / j)) := by
  intro E α H h x y v w Q hc rx ry k
  cases x with
  | int i =>
    cases y with
    | int j =>
      simp only [o_fdiv] at k
      obtain ⟨hl, k⟩ := Run.ite k
      exact ⟨i, j, of_int rx, of_int ry, hl, Run.done k hc r_int⟩
    | _ => exact k.elim
  | _ => cases y <;> exact k.elim
abbrev CPowW (i j : Int) : Prop := 0 ≤ j ∧ (Builtin.Int.intBits i : Int) * j ≤ 2 ^ 27
theorem op_powW {X : Cx} : OpR X (binaryOp .Pow) (rI CPowW fun i j => .int (i ^ j.toNat)) := opI fun _ _ _ _ _ _ _ hc q => pow_int hc.1 hc.2 q
theorem s_pow : O2S W o_pow (rI CPowW fun i j => .int (i ^ j.toNat)) := by
  intro E α H h x y v w Q hc rx ry k
  cases x with
  | int i =>
    cases y with
    | int j =>
      simp only [o_pow] at k
      obtain ⟨⟨h1, h2, h3⟩, k⟩ := Run.ite k
      refine ⟨i, j, of_int rx, of_int ry, ⟨h1, ?_⟩, Run.done k hc r_int⟩
      have hb : Builtin.Int.intBits i ≤ 4096 := by
        unfold Builtin.Int.intBits
        split <;> omega
      have : (Builtin.Int.intBits i : Int) * j ≤ 4096 * 1000 := Int.mul_le_mul (by omega) h2 h1 (by omega)
      exact Int.le_trans this (by decide)
    | _ => exact k.elim
  | _ => cases y <;> exact k.elim
theorem s_neg : O1S W o_neg (rU fun i => .int (-i)) := by
  intro E α H h x v Q hc rx k
  cases x with
  | int i => exact ⟨i, of_int rx, Run.done k hc r_int⟩
  | _ => exact k.elim
/-! order -/
abbrev rLtS : R2 := fun x y H Q => ∃ i j, x = .str i ∧ y = .str j ∧ Q (.bl (decide (i.cps.toList < j.cps.toList))) H
theorem op_ltAll {X : Cx} : OpR X (compareOp .Lt) (fun x y H Q => rIntB (fun i j => decide (i < j)) x y H Q ∨ rLtS x y H Q) := op_lt.or op_lt_str
theorem s_lt : O2S W o_lt (fun x y H Q => rIntB (fun i j => decide (i < j)) x y H Q ∨ rLtS x y H Q) := by
  intro E α H h x y v w Q hc rx ry k
  cases x with
  | int i =>
    cases y with
    | int j => exact .inl ⟨i, j, of_int rx, of_int ry, Run.done k hc r_bl⟩
    | _ => exact k.elim
  | str s =>
    cases y with
    | str t => exact .inr ⟨_, _, of_str rx, of_str ry, Run.done k hc r_bl⟩
    | _ => exact k.elim
  | _ => cases y <;> exact k.elim
theorem s_le : O2S W o_le (rIntB fun i j => decide (i ≤ j)) := by
  intro E α H h x y v w Q hc rx ry k
  cases x with
  | int i =>
    cases y with
    | int j => exact ⟨i, j, of_int rx, of_int ry, Run.done k hc r_bl⟩
    | _ => exact k.elim
  | _ => cases y <;> exact k.elim
theorem s_gt : O2S W o_gt (rIntB fun i j => decide (j < i)) := by
  intro E α H h x y v w Q hc rx ry k
  cases x with
  | int i =>
    cases y with
    | int j => exact ⟨i, j, of_int rx, of_int ry, Run.done k hc r_bl⟩
    | _ => exact k.elim
  | _ => cases y <;> exact k.elim
theorem s_ge : O2S W o_ge (rIntB fun i j => decide (j ≤ i)) := by
  intro E α H h x y v w Q hc rx ry k
  cases x with
  | int i =>
    cases y with
    | int j => exact ⟨i, j, of_int rx, of_int ry, Run.done k hc r_bl⟩
    | _ => exact k.elim
  | _ => cases y <;> exact k.elim
abbrev rIsN : R2 := fun x y H Q => y = .non ∧ Q (.bl (decide (x = .non))) H
abbrev rNotN : R2 := fun x y H Q => y = .non ∧ Q (.bl (!decide (x = .non))) H
theorem rep_non {K : PySem.W.Frag} {α : List Addr} {H : Hp} {x : D} {v : V} (r : Rep K α H x v) : decide (v = .non) = decide (x = .non) := by
  cases x with
  | non => rw [of_non r]; rfl
  | bl b => rw [of_bl r]; rfl
  | int i => rw [of_int r]; rfl
  | str s => rw [of_str r]; rfl
  | tup ds => obtain ⟨p, vs, rfl, _⟩ := of_tup r; rfl
  | frz ds => obtain ⟨p, vs, rfl, _⟩ := of_frz r; rfl
  | ref k => obtain ⟨a, _, rfl⟩ := of_ref r; rfl
theorem s_is : O2S W o_is rIsN := by
  intro E α H h x y v w Q hc rx ry k
  cases y with
  | non => exact ⟨of_non ry, by rw [rep_non rx]; exact Run.done k hc r_bl⟩
  | _ => exact k.elim
theorem s_isnot : O2S W o_isnot rNotN := by
  intro E α H h x y v w Q hc rx ry k
  cases y with
  | non => exact ⟨of_non ry, by rw [rep_non rx]; exact Run.done k hc r_bl⟩
  | _ => exact k.elim
end
/-! == by data -/
mutual
def PD.to : PD → PyData
  | .none => .none
  | .bool b => .bool b
  | .int i => .int i
  | .str s => .str (toStr s)
  | .list xs => .list (PD.tos xs)
  | .tuple xs => .tuple (PD.tos xs)
def PD.tos : List PD → List PyData
  | [] => []
  | d :: ds => PD.to d :: PD.tos ds
end
theorem toStr_inj {s t : Txt} : (toStr s == toStr t) = (s == t) := by
  by_cases e : s = t
  · subst e; simp
  · have : toStr s ≠ toStr t := fun q => e (by have := congrArg (fun z : Str => z.cps.toList) q; simpa using this)
    rw [beq_eq_false_iff_ne.mpr this, beq_eq_false_iff_ne.mpr e]
mutual
theorem PD.eqv_to : ∀ a b : PD, PyData.eqv (PD.to a) (PD.to b) = PD.eqv a b
  | .none, b => by cases b <;> simp [PD.to, PyData.eqv, PD.eqv]
  | .bool x, b => by cases b <;> simp [PD.to, PyData.eqv, PD.eqv]
  | .int x, b => by cases b <;> simp [PD.to, PyData.eqv, PD.eqv]
  | .str x, b => by
    cases b with
    | str y => simp only [PD.to, PyData.eqv, PD.eqv, toStr_inj]
    | _ => simp [PD.to, PyData.eqv, PD.eqv]
  | .list x, b => by
    cases b with
    | list y => simp only [PD.to, PyData.eqv, PD.eqv, PD.eqvs_to x y]
    | _ => simp [PD.to, PyData.eqv, PD.eqv]
  | .tuple x, b => by
    cases b with
    | tuple y => simp only [PD.to, PyData.eqv, PD.eqv, PD.eqvs_to x y]
    | _ => simp [PD.to, PyData.eqv, PD.eqv]
theorem PD.eqvs_to : ∀ a b : List PD, PyData.eqvAll (PD.tos a) (PD.tos b) = PD.eqvs a b
  | [], b => by cases b <;> simp [PD.tos, PyData.eqvAll, PD.eqvs]
  | x :: xs, b => by
    cases b with
    | nil => simp [PD.tos, PyData.eqvAll, PD.eqvs]
    | cons y ys => simp only [PD.tos, PyData.eqvAll, PD.eqvs, PD.eqv_to x y, PD.eqvs_to xs ys]
end
theorem strOk_to {s : Txt} (o : okT s) : PyData.strOk (toStr s) = true := by
  unfold PyData.strOk
  simp only [List.all_toArray', List.all_eq_true, decide_eq_true_eq, Array.all_eq_true']
  intro x hx
  exact o x (by simpa using hx)
section
variable {W : Wd} {α : List Addr} {H : Hp} {h : IR.Heap}
theorem mapO_reads (hc : HCorr W α h H) {n : Nat} (ih : ∀ d v p, Rep W.K α H d v → rd h n d = some p → Dp W.K H v p.to ∧ p.to.depth ≤ n ∧ p.to.canLay0 = true) : ∀ {ds : List D} {vs : List V} {ps : List PD}, Reps W.K α H ds vs → mapO (rd h n) ds = some ps → DpAll W.K H vs (PD.tos ps) ∧ PyData.depthAll (PD.tos ps) ≤ n ∧ PyData.canLayAll0 (PD.tos ps) = true
  | [], vs, ps, r, e => by
    simp only [Reps] at r; subst r
    simp only [mapO] at e; cases e
    exact ⟨.nil, by simp [PD.tos, PyData.depthAll], by simp [PD.tos, PyData.canLayAll0]⟩
  | d :: ds, vs, ps, r, e => by
    simp only [Reps] at r
    obtain ⟨v, r', rfl, q, t⟩ := r
    simp only [mapO] at e
    split at e
    · rename_i b bs e1 e2
      cases e
      obtain ⟨x1, x2, x3⟩ := ih d v b q e1
      obtain ⟨y1, y2, y3⟩ := mapO_reads hc ih t e2
      refine ⟨.cons x1 y1, ?_, by simp only [PD.tos, PyData.canLayAll0, x3, y3, Bool.and_self]⟩
      simp only [PD.tos, PyData.depthAll]
      omega
    · cases e
theorem rd_reads (hc : HCorr W α h H) : ∀ (n : Nat) (d : D) (v : V) (p : PD), Rep W.K α H d v → rd h n d = some p → Dp W.K H v p.to ∧ p.to.depth ≤ n ∧ p.to.canLay0 = true
  | 0, d, v, p, r, e => by cases e
  | n + 1, d, v, p, r, e => by
    have ih := rd_reads hc n
    cases d with
    | non => rw [of_non r]; cases e; exact ⟨.non, by simp [PD.to, PyData.depth], by simp [PD.to, PyData.canLay0]⟩
    | bl b => rw [of_bl r]; cases e; exact ⟨.bl b, by simp [PD.to, PyData.depth], by simp [PD.to, PyData.canLay0]⟩
    | int i => rw [of_int r]; cases e; exact ⟨.int i, by simp [PD.to, PyData.depth], by simp [PD.to, PyData.canLay0]⟩
    | str s => rw [of_str r]; cases e; exact ⟨.str _, by simp [PD.to, PyData.depth], by simp only [PD.to, PyData.canLay0]; exact strOk_to (ok_str r)⟩
    | tup ds =>
      obtain ⟨a, vs, rfl, ht, rr⟩ := of_tup r
      simp only [rd] at e
      cases e2 : mapO (rd h n) ds with
      | none => rw [e2] at e; cases e
      | some ps =>
        rw [e2] at e; cases e
        obtain ⟨x1, x2, x3⟩ := mapO_reads hc ih rr e2
        exact ⟨.tup ht x1, by simp only [PD.to, PyData.depth]; omega, by simp only [PD.to, PyData.canLay0]; exact x3⟩
    | frz ds =>
      obtain ⟨a, vs, rfl, ht, rr⟩ := of_frz r
      simp only [rd] at e
      cases e2 : mapO (rd h n) ds with
      | none => rw [e2] at e; cases e
      | some ps =>
        rw [e2] at e; cases e
        obtain ⟨x1, x2, x3⟩ := mapO_reads hc ih rr e2
        exact ⟨.lst ht.sql x1, by simp only [PD.to, PyData.depth]; omega, by simp only [PD.to, PyData.canLay0]; exact x3⟩
    | ref k =>
      simp only [rd] at e
      split at e
      · rename_i ds e1
        obtain ⟨a, vs, _, rfl, hp, rr⟩ := lst_at hc r e1
        cases e2 : mapO (rd h n) ds with
        | none => rw [e2] at e; cases e
        | some ps =>
          rw [e2] at e; cases e
          obtain ⟨x1, x2, x3⟩ := mapO_reads hc ih rr e2
          exact ⟨.lst (SqL.of hp) x1, by simp only [PD.to, PyData.depth]; omega, by simp only [PD.to, PyData.canLay0]; exact x3⟩
      · cases e
theorem shaped_to {p : PD} (hd : p.to.depth ≤ DEEP) (hl : p.to.canLay0 = true) : SeqAt.shaped p.to = true := by
  unfold SeqAt.shaped
  rw [hl, Bool.true_and]
  exact decide_eq_true (by simp only [DEEP] at hd; omega)
theorem eqD_reads (hc : HCorr W α h H) {x y : D} {v w : V} {b : Bool} (rx : Rep W.K α H x v) (ry : Rep W.K α H y w) (e : eqD h x y = some b) :
    ∃ d e, Dp W.K H v d ∧ Dp W.K H w e ∧ SeqAt.shaped d = true ∧ SeqAt.shaped e = true ∧ PyData.eqv d e = b := by
  unfold eqD at e
  split at e
  · rename_i p q e1 e2
    cases e
    obtain ⟨x1, x2, x3⟩ := rd_reads hc DEEP x v p rx e1
    obtain ⟨y1, y2, y3⟩ := rd_reads hc DEEP y w q ry e2
    exact ⟨_, _, x1, y1, shaped_to x2 x3, shaped_to y2 y3, PD.eqv_to p q⟩
  · cases e
theorem s_eq : O2S W o_eq (rEqD W.K) := by
  intro E α H h x y v w Q hc rx ry k
  obtain ⟨b, e, k⟩ := Run.lift k
  obtain ⟨d, e', x1, y1, s1, s2, e3⟩ := eqD_reads hc rx ry e
  exact ⟨d, e', x1, y1, s1, s2, by rw [e3]; exact Run.done k hc r_bl⟩
theorem s_ne : O2S W o_ne (rNeD W.K) := by
  intro E α H h x y v w Q hc rx ry k
  obtain ⟨b, e, k⟩ := Run.lift k
  obtain ⟨d, e', x1, y1, s1, s2, e3⟩ := eqD_reads hc rx ry e
  exact ⟨d, e', x1, y1, s1, s2, by rw [e3]; exact Run.done k hc r_bl⟩
end
end IR
end

section
set_option Elab.async false
set_option linter.all false
set_option autoImplicit false
set_option maxRecDepth 100000
set_option maxHeartbeats 4000000
/-! defs that know that no repr is under way; calls -/
namespace IR
open PySem PySem.Spec PyProof.Rows L2
abbrev NoG (A : Around) : Prop := A.guards = some []
structure FnG (P : Program) (w : World) (K : PySem.W.Frag) (mg : Str → Option Value) (base : PySem.Heap) (k : Nat) (f : Addr) (fd : FuncData) (ps : List Str) (sp : Sp) : Prop where
  len : ∀ zs H Q E, sp zs H Q E → zs.length = ps.length
  run : ∀ (A : Around) (outer : List PySem.Env) (s : Shared) (H : Hp) (as : Args) (us : List Value) (zs : List V) (Q : VK) (E : XK),
    Room k A → NoG A → Env0 P w K mg base A outer s H → BindsTo s fd as (ps.zip us) → Vals zs us → sp zs H Q E →
    codeAny (model P w) A (Code.call (.ref f) as) (CR (L2.CX P w) outer P w H s Q E) s
section
variable {P : Program} {w : World} {K : PySem.W.Frag} {mg : Str → Option Value} {base : PySem.Heap}
theorem FnG.mono {j k : Nat} {f : Addr} {fd : FuncData} {ps : List Str} {sp : Sp} (F : FnG P w K mg base j f fd ps sp) (h : j ≤ k) : FnG P w K mg base k f fd ps sp :=
  ⟨F.len, fun A o s H as us zs Q E r g e b v q => F.run A o s H as us zs Q E (r.mono h) g e b v q⟩
theorem FnG.none {k : Nat} {f : Addr} {fd : FuncData} {ps : List Str} {sp : Sp} (h : ∀ zs H Q E, ¬ sp zs H Q E) : FnG P w K mg base k f fd ps sp :=
  ⟨fun _ _ _ _ q => (h _ _ _ _ q).elim, fun _ _ _ _ _ _ _ _ _ _ _ _ _ _ q => (h _ _ _ _ q).elim⟩
theorem deeper_g {A : Around} {env : PySem.Env} (g : NoG A) : NoG (A.deeper env) := g
/-- a def by its body -/
theorem fnG_of {k : Nat} {f : Addr} {nm ql : Str} {pr : Arguments} {bd : List Stmt} {sc : Scope} {dV kV dc pm cdv ct oc : Value} {an od : Option Addr} {osl : Array (Option Value)} {N ps : List Str} {sp : Sp}
    (lk : K.lookup f = some ⟨oc, od, .func (PySem.W.fnOf nm ql pr bd sc dV kV dc pm an cdv ct), osl⟩) (hcd : PySem.W.codeIn K cdv ql = true) (S : FnScope N ps sc)
    (len : ∀ zs H Q E, sp zs H Q E → zs.length = ps.length)
    (hb : ∀ (A : Around) (outer : List PySem.Env) (s : Shared) (H : Hp) (zs : List V) (Q : VK) (E : XK), Room k (A.deeper (envOfC ql sc s.heap.objs.size f cdv)) → NoG A → sp zs H Q E →
      ∃ t, PSs (cxOf (L2.CX P w) P w K mg base N ql sc f cdv A outer s H E) bd t ∧ t { nx := fun _ H' => Q .non H', rt := Q } (start N zs) H) :
    FnG P w K mg base (k + 1) f (PySem.W.fnOf nm ql pr bd sc dV kV dc pm an cdv ct) ps sp := by
  refine ⟨len, fun A outer s H as us zs Q E hr hg e0 bb r hsp => ?_⟩
  have hl : zs.length = ps.length := len _ _ _ _ hsp
  have inK : K.In s.heap := e0.mod.kin.keeps fun b o z => (e0.bs b o z).1
  have nolim : s.heap.NoLimit := e0.mod.nolimit.keeps fun b o z => (e0.bs b o z).1
  have kinds : ∀ y ∈ ps.zip us, sc.names.lookup y.1 = some .local ∨ (sc.names.lookup y.1 = some .cell ∧ ((cellsFrom (s.heap.objs.size + 1) sc.names []).lookup y.1).isSome = true) := by
    rintro ⟨n, v⟩ hy
    cases S.par n (List.of_mem_zip hy).1 with
    | inl q => exact .inl q
    | inr q => exact .inr ⟨q, PySem.W.cellsFrom_some _ _ _ (.inl q)⟩
  refine codeAny_call_function hr.depth (inK _ _ lk) rfl S.co S.gen rfl (PySem.W.codeRec_of inK hcd) (bb _ _ _ _ ?_)
  refine wpAny_newFunctionEnv_cells S.kind kinds fun env he s1 x => ?_
  subst he
  refine ⟨nolim.keeps x.toInCall.keep, codeAny_func ?_⟩
  obtain ⟨t, ht, hq⟩ := hb A outer s H zs Q E (hr.deeper _) hg hsp
  have I : L2.Inv (cxOf (L2.CX P w) P w K mg base N ql sc f cdv A outer s H E) [] (start N zs) H s1 := inv_start S hr.hd e0 hl r x
  refine wpAny_mono (ht.run [] s1 (start N zs) H _ I hq) (fun fl s' hs => ?_) fun _ _ z => z
  have fin : ∀ {σ' : L2.St} {H' : Hp} {v : V} {u : Value}, L2.Inv (cxOf (L2.CX P w) P w K mg base N ql sc f cdv A outer s H E) [] σ' H' s' → RelV v u → Q v H' → CE outer P w H s Q u s' := by
    intro σ' H' v u J rv q
    exact ⟨v, H', J.os, J.bare, J.base, J.hok, rv, q⟩
  cases fl with
  | ret u => obtain ⟨v, σ', H', J, rv, q⟩ := hs; exact fin J rv q
  | next => obtain ⟨σ', H', J, q⟩ := hs; exact fin (v := V.non) (u := Value.none) J rfl q
  | brk => obtain ⟨_, _, _, q⟩ := hs; exact q.elim
  | cont => obtain ⟨_, _, _, q⟩ := hs; exact q.elim
end

/-- what a def promises: what the small semantics says -/
def spG (W : Wd) (g : OL) : Sp := fun zs H Q E => ∃ α ds h, HCorr W α h H ∧ Reps W.K α H ds zs ∧ Run W (RV W) E α H Q (g ds h)

section
variable {X : Cx} {W : Wd} {Wx : WX} {k : Nat} {f C : Addr} {fd : FuncData} {ps : List Str} {g : OL} {pins : List (Addr × Obj)} {σ : L2.St} {H : Hp} {s : Shared} {Q : VK} {us : List Value} {zs : List V}
theorem run_g {sp : Sp} {E : XK} (F : FnG X.prog X.w X.K X.mg X.base k f fd ps sp) (hr : Room k X.A) (hg : NoG X.A) (hb : Binds X.K fd ps []) (hx : PassesAt (L2.CX X.prog X.w) X σ E) (I : L2.Inv X pins σ H s) (r : Vals zs us) (h : sp zs H Q E) :
    wpAny (model X.prog X.w) X.A (call (.ref f) us) (EP X pins σ Q) X.xe s := by
  have hl : (us ++ []).length = ps.length := by rw [List.append_nil, ← r.length]; exact F.len _ _ _ _ h
  have bb := hb s us I.kIn hl
  rw [List.append_nil] at bb
  refine wpAny_call (codeAny_mono (F.run X.A X.stack s H ⟨us, []⟩ us zs Q E hr hg I.env0 bb r h) fun r s' hq => ?_)
  cases r with
  | error e => exact hx pins H s e s' I hq
  | ok fl =>
    cases fl with
    | ret u => exact I.after hq
    | next => exact hq.elim
    | brk => exact hq.elim
    | cont => exact hq.elim
variable {x m : Str} {p pos apos : Pos} {e o : Expr} {es : List Expr} {ga : SA} {fo : SE}
/-- what is known of a def: where it stands, its promise -/
structure DefOk (X : Cx) (W : Wd) (k : Nat) (x : Str) (f : Addr) (fd : FuncData) (ps : List Str) (g : OL) : Prop where
  fn : FnG X.prog X.w X.K X.mg X.base k f fd ps (spG W g)
  at_ : X.mg x = some (.ref f)
  kp : PySem.W.keepIn X.K (.ref f) = true
  bd : Binds X.K fd ps []
theorem q_call (F : FnG X.prog X.w X.K X.mg X.base k f fd ps (spG W g)) (at_ : X.mg x = some (.ref f)) (kp : PySem.W.keepIn X.K (.ref f) = true) (bd : Binds X.K fd ps []) (tk : Takes X Wx) (hr : Room k X.A) (hn : NoG X.A) (ha : PA X (e :: es) (semA W Wx ga)) (hg : Gl X x := by rfl)
    (hdb : (x == ("__debug__" : Str)) = false := by decide) (he : starEach (e :: es) X.env = (false, eval e X.env) :: starEach es X.env := by rfl) (hpl : (backTo pos (starEach es X.env)).any (·.1) = false := by rfl) :
    PE X (.Call (.Name x p) (e :: es) [] pos) (semE W Wx (e_call g ga)) := by
  refine ⟨fun pins s σ H Q I h => wpAny_Call_Name_kw (ld_glob I hg at_ ?_ hdb)⟩
  have h' : semA W Wx ga σ H fun zs H1 => spG W g zs H1 Q (WE Wx σ) := bindG (g := fun env xs h1 => g xs h1) h fun α env xs h1 vs H1 c rx k => ⟨α, xs, h1, c.hc, rx, k⟩
  refine PySem.W.callWith_K (h₀ := X.base) I.ok.mod.kin kp (thn (ha.run pos pins s σ H _ I h') fun us s1 ⟨zs, H1, I1, r, q⟩ => ⟨I1.kIn, ?_⟩) he hpl
  exact run_g F hr hn bd (passAt tk σ) I1 r q
theorem q_call0 (F : FnG X.prog X.w X.K X.mg X.base k f fd ps (spG W g)) (at_ : X.mg x = some (.ref f)) (kp : PySem.W.keepIn X.K (.ref f) = true) (bd : Binds X.K fd ps []) (tk : Takes X Wx) (hr : Room k X.A) (hn : NoG X.A) (hg : Gl X x := by rfl)
    (hdb : (x == ("__debug__" : Str)) = false := by decide) : PE X (.Call (.Name x p) [] [] pos) (semE W Wx (e_call g a_nil)) := by
  refine ⟨fun pins s σ H Q I h => wpAny_Call_Name_kw (ld_glob I hg at_ ?_ hdb)⟩
  obtain ⟨α, env, h0, c, k⟩ := h
  exact PySem.W.callWith_K0 I.kIn kp (run_g F hr hn bd (passAt tk σ) I .nil ⟨α, [], h0, c.hc, by simp only [Reps], k⟩)
/-! instances -/
/-- a class of instances -/
structure ClsOk (W : Wd) (c : Nat) : Prop where
  cl : Cls W.K (W.cl c)
  cc : PySem.W.findIn W.K (.ref (W.cl c)) (Str.ofString "__class__") = some (some (.builtin "object.__class__"))
  cg : PySem.W.specialIn W.K (.builtin "object.__class__") (Str.ofString "__get__") = some (some (.builtin "getset_descriptor.__get__"))
  ct : PySem.W.takesIn W.K (.builtin "object.__class__") = some true
  co : PySem.W.mroIn W.K (W.cl c) (.type "object") = some true
theorem fields_look (inj : ∀ a b, W.fld a = W.fld b → a = b) {f : String} {α : List Addr} : ∀ {fs : List (String × D)} {vs : List V} {d : D}, Reps W.K α H (fs.map (·.2)) vs → fs.lookup f = some d → ∃ v, (fields W fs vs).lookup (W.fld f) = some v ∧ Rep W.K α H d v
  | [], vs, d, r, e => by cases e
  | (g, y) :: fs, vs, d, r, e => by
    simp only [List.map_cons, Reps] at r
    obtain ⟨v, rs, rfl, rv, rr⟩ := r
    unfold fields
    simp only [List.map_cons, List.zip_cons_cons, List.lookup_cons]
    simp only [List.lookup_cons] at e
    by_cases hf : f = g
    · subst hf
      simp only [beq_self_eq_true] at e ⊢
      cases e
      exact ⟨v, rfl, rv⟩
    · have h1 : (f == g) = false := beq_eq_false_iff_ne.mpr hf
      have h2 : (W.fld f == W.fld g) = false := beq_eq_false_iff_ne.mpr fun z => hf (inj _ _ z)
      rw [h1] at e
      rw [h2]
      exact fields_look inj rr e
theorem fields_no (inj : ∀ a b, W.fld a = W.fld b → a = b) {f : String} : ∀ {fs : List (String × D)} {vs : List V}, fs.lookup f = none → (fields W fs vs).lookup (W.fld f) = none
  | [], vs, e => rfl
  | (g, y) :: fs, vs, e => by
    cases vs with
    | nil => rfl
    | cons v vs =>
      unfold fields
      simp only [List.map_cons, List.zip_cons_cons, List.lookup_cons]
      simp only [List.lookup_cons] at e
      by_cases hf : f = g
      · subst hf; simp at e
      · have h1 : (f == g) = false := beq_eq_false_iff_ne.mpr hf
        have h2 : (W.fld f == W.fld g) = false := beq_eq_false_iff_ne.mpr fun z => hf (inj _ _ z)
        rw [h1] at e
        rw [h2]
        exact fields_no inj e
/-- o.f -/
theorem q_fld {f : String} (hK : W.K = X.K) (inj : ∀ a b, W.fld a = W.fld b → a = b) (hcl : ∀ c, ClsOk W c) (hna : ∀ c, NoAttr W.K (W.cl c) (W.fld f)) (ho : PE X o (semE W Wx fo)) (hb : attributeBase o (W.fld f) X.env (eval o X.env) = eval o X.env := by rfl) : PE X (.Attribute o (W.fld f) pos) (semE W Wx (e_1 (o_fld f) fo)) :=
  (pe_fld ho hb).imp fun σ H Q q => bindG (g := fun env x h1 => o_fld f x h1) q fun α env x h1 v H1 c rx k => by
    simp only [o_fld] at k
    obtain ⟨d, e, k2⟩ := Run.lift1 k
    clear k
    unfold fldD at e
    cases x with
    | ref i =>
      simp only at e
      split at e
      · rename_i cc fs e1
        obtain ⟨a, ea, rfl⟩ := of_ref rx
        obtain ⟨dx, vs, hp, rr⟩ := c.hc.ob i _ a e1 ea
        obtain ⟨u, hu, ru⟩ := fields_look inj rr e
        exact ⟨a, W.cl cc, dx, _, u, rfl, hp, hK ▸ (hcl cc).cl, hK ▸ hna cc, hu, Run.done k2 c.hc ru⟩
      · cases e
    | _ => cases e
/-- C(..) -/
theorem fresh_ins {α : List Addr} {h : IR.Heap} {c : Nat} {y dx : Addr} (hc : HCorr W α h H) (hy : H y = none) (hd : H dx = none) (hne : dx ≠ y) :
    Le W.K α H (α ++ [y]) (upd (upd H dx (.own y)) y (.ins (W.cl c) dx [])) ∧ HCorr W (α ++ [y]) (h ++ [.ins c []]) (upd (upd H dx (.own y)) y (.ins (W.cl c) dx [])) ∧ Rep W.K (α ++ [y]) (upd (upd H dx (.own y)) y (.ins (W.cl c) dx [])) (.ref h.length) (.ref y) := by
  have k : ∀ q u, H q = some u → upd (upd H dx (.own y)) y (.ins (W.cl c) dx []) q = some u := fun q u z => by
    rw [upd_ne (ne_of_none z hy), upd_ne (ne_of_none z hd)]; exact z
  exact new_obj hy k hc ⟨dx, [], upd_same, by simp only [List.map_nil, Reps]⟩
theorem run_new {c : Nat} {α : List Addr} {h : IR.Heap} {ds : List D} {g : OL} {E : XK} (M : Mk X.K (W.cl c) f) (F : FnG X.prog X.w X.K X.mg X.base k f fd ps (spG W g)) (hr : Room (k + 1) X.A) (hn : NoG X.A) (bd : Binds X.K fd ps []) (hx : PassesAt (L2.CX X.prog X.w) X σ E) (I : L2.Inv X pins σ H s) (r : Vals zs us)
    (hc : HCorr W α h H) (rd : Reps W.K α H ds zs)
    (q : Run W (RV W) E α H Q ((g (.ref h.length :: ds) (h ++ [.ins c []])).bind fun v h1 => if v = .non then .ok (.ref h.length) h1 else .bad)) :
    wpAny (model X.prog X.w) X.A (call (.ref (W.cl c)) us) (EP X pins σ Q) X.xe s := by
  have fy := I.hok.fresh (Nat.le_succ s.heap.objs.size)
  have fd' := I.hok.fresh (Nat.le_refl s.heap.objs.size)
  have hne := Nat.ne_of_lt (Nat.lt_succ_self s.heap.objs.size)
  have I2 := Inv.made (C := W.cl c) I
  obtain ⟨le, hc2, rr⟩ := fresh_ins (c := c) hc fy fd' hne
  have hq : spG W g (V.ref (s.heap.objs.size + 1) :: zs) (upd (upd H s.heap.objs.size (.own (s.heap.objs.size + 1))) (s.heap.objs.size + 1) (.ins (W.cl c) s.heap.objs.size [])) (fun v H2 => v = .non ∧ Q (.ref (s.heap.objs.size + 1)) H2) E := by
    refine ⟨_, .ref h.length :: ds, _, hc2, by simp only [Reps]; exact ⟨_, _, rfl, rr, rd.mono le⟩, ?_⟩
    have q2 := Run.later q le
    cases e : g (.ref h.length :: ds) (h ++ [.ins c []]) with
    | bad => rw [e] at q2; exact q2
    | exc c1 d h' => rw [e] at q2; exact q2
    | ok v h1 =>
      rw [e] at q2
      simp only [Res.bind_ok] at q2
      obtain ⟨hv, q2⟩ := Run.ite q2
      subst hv
      exact fun α' H' u l hc' ru => ⟨of_non ru, q2 α' H' _ l hc' (rr.mono l)⟩
  have r2 : Vals (V.ref (s.heap.objs.size + 1) :: zs) (Value.ref (s.heap.objs.size + 1) :: us) := .cons rfl r
  have hl : (Value.ref (s.heap.objs.size + 1) :: us).length = ps.length := by rw [← r2.length]; exact F.len _ _ _ _ hq
  have bb := bd { s with heap := (s.heap.push PySem.W.emptyDict).push (PySem.W.instObj (W.cl c) s.heap.objs.size) } (Value.ref (s.heap.objs.size + 1) :: us) I2.kIn (by rw [List.append_nil]; exact hl)
  rw [List.append_nil] at bb
  refine wpAny_call (make_map (f := f) I.kIn M.makes M.init (beq_iff_eq.mp M.fn) (codeAny_mono (F.run _ X.stack _ _ ⟨Value.ref (s.heap.objs.size + 1) :: us, []⟩ _ _ _ E (hr.make (W.cl c) us []) ?_ (I2.env0.make (W.cl c) us []) bb r2 hq) fun r s' hq' => ?_))
  · show NoG _
    exact hn
  · cases r with
    | error e => exact hx pins _ _ e s' I2 hq'
    | ok fl =>
      cases fl with
      | ret u =>
        obtain ⟨v, H', I3, rv, ev, q3⟩ := I2.after hq'
        subst ev
        exact ⟨rv, ⟨V.ref (s.heap.objs.size + 1), H', I3, rfl, q3⟩⟩
      | next => exact hq'.elim
      | brk => exact hq'.elim
      | cont => exact hq'.elim
theorem q_new {c : Nat} {κ : Kap} {fn : Nat} (M : Mk X.K (W.cl c) f) (F : FnG X.prog X.w X.K X.mg X.base k f fd ps (spG W (κ.ini fn))) (hm : X.mg x = some (.ref (W.cl c))) (bd : Binds X.K fd ps []) (tk : Takes X Wx) (hr : Room (k + 1) X.A) (hn : NoG X.A) (ha : PA X (e :: es) (semA W Wx ga)) (hg : Gl X x := by rfl)
    (hdb : (x == ("__debug__" : Str)) = false := by decide) (he : starEach (e :: es) X.env = (false, eval e X.env) :: starEach es X.env := by rfl) (hpl : (backTo pos (starEach es X.env)).any (·.1) = false := by rfl) :
    PE X (.Call (.Name x p) (e :: es) [] pos) (semE W Wx (e_call (o_new κ c fn) ga)) := by
  refine ⟨fun pins s σ H Q I h => wpAny_Call_Name_kw (ld_glob I hg hm ?_ hdb)⟩
  have h' : semA W Wx ga σ H fun zs H1 => ∃ α ds h1, HCorr W α h1 H1 ∧ Reps W.K α H1 ds zs ∧ Run W (RV W) (WE Wx σ) α H1 Q (o_new κ c fn ds h1) :=
    bindG (g := fun env xs h1 => o_new κ c fn xs h1) h fun α env xs h1 vs H1 c rx k => ⟨α, xs, h1, c.hc, rx, k⟩
  refine PySem.W.callWith_K (h₀ := X.base) I.ok.mod.kin M.kp (thn (ha.run pos pins s σ H _ I h') fun us s1 ⟨zs, H1, I1, r, α, ds, h1, hc1, rd, q⟩ => ⟨I1.kIn, ?_⟩) he hpl
  exact run_new M F hr hn bd (passAt tk σ) I1 r hc1 rd q
end
end IR
end

section
set_option Elab.async false
set_option linter.all false
set_option autoImplicit false
set_option maxRecDepth 100000
set_option maxHeartbeats 4000000
/-! own classes: operators, comparisons -/
namespace IR
open PySem PySem.Spec PyProof.Rows L2
/-- an operator's answer -/
abbrev Tells (Q : Value → Shared → Prop) (r : Option Value) (s : Shared) : Prop := ∃ v, r = some v ∧ Q v s
section
variable {prog : Program} {w : World} {A : Around} {E : Value → Shared → Prop} {s : Shared} {K : PySem.W.Frag} {x y C f : Addr} {ox oy : Obj} {od oe : Option Obj} {nm : String}
/-- both of one class -/
theorem bin1_same {Q : Value → Shared → Prop} (X : K.In s.heap) (I : PySem.W.InstAt s.heap x ox C od) (J : PySem.W.InstAt s.heap y oy C oe) (hc : PySem.W.selfFirst K C = true)
    (hs : PySem.W.findIn K (.ref C) (PySem.dunder nm) = some (some (.ref f))) (hf : PySem.W.isFn K (.ref f) = true)
    (h : wpAny (model prog w) A (call (.ref f) [.ref x, .ref y]) (PySem.W.CmpBack Q) E s) : wpAny (model prog w) A (binaryOp1 nm (.ref x) (.ref y)) (Tells Q) E s := by
  obtain ⟨cd, rest, hcd, hm⟩ := PySem.W.ksp_first hc
  have one := PySem.W.ksp_try X I hs hf h
  obtain ⟨hh, g, d, tt, os⟩ := s
  have L1 : PySem.W.Looks (model prog w) hh (typeOf (.ref x)) (.ref C) := I.type
  have L2 : PySem.W.Looks (model prog w) hh (typeOf (.ref y)) (.ref C) := J.type
  have L3 : PySem.W.Looks (model prog w) hh (fillsNumberSlot (.ref C) nm) true := PySem.W.fills_K X hcd hm hs
  unfold binaryOp1
  refine wpAny_bind (L1.at (wpAny_bind (L2.at (wpAny_bind (L3.at ?_)))))
  simp only [beq_self_eq_true, if_true]
  ksp_lk
  refine wpAny_mono one (fun r s' hr' => ?_) fun _ _ e => e
  obtain ⟨v, rfl, hq⟩ := hr'
  ksp_lk
  exact ⟨v, rfl, hq⟩
/-- an own one on the left, a value of a built-in type on the right -/
theorem bin1_left {T : String} {b : Value} {fo ro rc : Option Value} {Q : Value → Shared → Prop} (X : K.In s.heap) (I : PySem.W.InstAt s.heap x ox C od) (hb : typeOf b = pure (.type T)) (hc : PySem.W.selfFirst K C = true)
    (hs : PySem.W.findIn K (.ref C) (PySem.dunder nm) = some (some (.ref f))) (hf : PySem.W.isFn K (.ref f) = true) (hr : PySem.W.findIn K (.ref C) (dunderR nm) = some rc) (hp : rc = none ∨ ∃ g : Addr, rc = some (.ref g))
    (h1 : PySem.W.findIn K (.type T) (PySem.dunder nm) = some fo) (h2 : PySem.W.findIn K (.type T) (dunderR nm) = some ro) (hsub : PySem.W.subIn K (.type T) (.ref C) = some false)
    (h : wpAny (model prog w) A (call (.ref f) [.ref x, b]) (PySem.W.CmpBack Q) E s) : wpAny (model prog w) A (binaryOp1 nm (.ref x) b) (Tells Q) E s := by
  obtain ⟨cd, rest, hcd, hm⟩ := PySem.W.ksp_first hc
  have one := PySem.W.ksp_try X I hs hf h
  obtain ⟨hh, g, d, tt, os⟩ := s
  have L1 : PySem.W.Looks (model prog w) hh (typeOf (.ref x)) (.ref C) := I.type
  have L2 : PySem.W.Looks (model prog w) hh (typeOf b) (.type T) := PySem.W.Looks.of_pure hb
  have L3 : PySem.W.Looks (model prog w) hh (fillsNumberSlot (.ref C) nm) true := PySem.W.fills_K X hcd hm hs
  have L4 : PySem.W.Looks (model prog w) hh (fillsNumberSlot (.type T) nm) ((fo.isSome && !isSeqSlot fo) || (ro.isSome && !isSeqSlot ro)) := PySem.W.ksp_fillsT X h1 h2
  have L5 : PySem.W.Looks (model prog w) hh (isSubtype (.type T) (.ref C)) false := PySem.W.looks_subIn X hsub
  have L6 : PySem.W.Looks (model prog w) hh (numberSlotInPython (.ref C) nm) true := PySem.W.ksp_inPy X hs hr hp
  have L7 : PySem.W.Looks (model prog w) hh (numberSlotInPython (.type T) nm) false := PySem.W.Looks.of_pure rfl
  have L8 : PySem.W.Looks (model prog w) hh (typeLookup (.type T) (dunderR nm)) ro := PySem.W.looks_findIn X h2
  generalize ((fo.isSome && !isSeqSlot fo) || (ro.isSome && !isSeqSlot ro)) = rt at L4
  have hne : (Value.ref C == Value.type T) = false := Bool.eq_false_iff.mpr fun q => by cases beq_iff_eq.mp q
  unfold binaryOp1
  refine wpAny_bind (L1.at (wpAny_bind (L2.at (wpAny_bind (L3.at ?_)))))
  simp only [hne, Bool.false_eq_true, if_false]
  cases rt with
  | false =>
    ksp_lk
    refine wpAny_mono one (fun r s' hr' => ?_) fun _ _ e => e
    obtain ⟨v, rfl, hq⟩ := hr'
    ksp_lk
    exact ⟨v, rfl, hq⟩
  | true =>
    ksp_lk
    refine wpAny_mono one (fun r s' hr' => ?_) fun _ _ e => e
    obtain ⟨v, rfl, hq⟩ := hr'
    ksp_lk
    exact ⟨v, rfl, hq⟩
/-- a value of a built-in type on the left, an own one on the right -/
theorem bin1_refl {T : String} {a : Value} {Q : Value → Shared → Prop} {g : Addr} (X : K.In s.heap) (J : PySem.W.InstAt s.heap y oy C oe) (hb : typeOf a = pure (.type T)) (hc : PySem.W.selfFirst K C = true)
    (hs : PySem.W.findIn K (.ref C) (PySem.dunder nm) = some (some (.ref g))) (hr : PySem.W.findIn K (.ref C) (dunderR nm) = some (some (.ref f))) (hf : PySem.W.isFn K (.ref f) = true)
    (h1 : PySem.W.findIn K (.type T) (PySem.dunder nm) = some none) (h2 : PySem.W.findIn K (.type T) (dunderR nm) = some none)
    (h : wpAny (model prog w) A (call (.ref f) [.ref y, a]) (PySem.W.CmpBack Q) E s) : wpAny (model prog w) A (binaryOp1 nm a (.ref y)) (Tells Q) E s := by
  obtain ⟨cd, rest, hcd, hm⟩ := PySem.W.ksp_first hc
  have one := PySem.W.ksp_try X J hr hf h
  obtain ⟨hh, g, d, tt, os⟩ := s
  have L1 : PySem.W.Looks (model prog w) hh (typeOf a) (.type T) := PySem.W.Looks.of_pure hb
  have L2 : PySem.W.Looks (model prog w) hh (typeOf (.ref y)) (.ref C) := J.type
  have L3 : PySem.W.Looks (model prog w) hh (fillsNumberSlot (.type T) nm) false := PySem.W.ksp_fillsT X h1 h2
  have L4 : PySem.W.Looks (model prog w) hh (fillsNumberSlot (.ref C) nm) true := PySem.W.fills_K X hcd hm hs
  have hne : (Value.type T == Value.ref C) = false := Bool.eq_false_iff.mpr fun q => by cases beq_iff_eq.mp q
  unfold binaryOp1
  refine wpAny_bind (L1.at (wpAny_bind (L2.at (wpAny_bind (L3.at ?_)))))
  simp only [hne, Bool.false_eq_true, if_false]
  ksp_lk
  refine wpAny_mono one (fun r s' hr' => ?_) fun _ _ e => e
  obtain ⟨v, rfl, hq⟩ := hr'
  ksp_lk
  exact ⟨v, rfl, hq⟩
theorem bin_of {op : Operator} {a b : Value} {Q : Value → Shared → Prop} (h : wpAny (model prog w) A (binaryOp1 op.info.2 a b) (Tells Q) E s) : wpAny (model prog w) A (binaryOp op a b) Q E s := by
  rcases hi : op.info with ⟨sym, nm'⟩
  rw [hi] at h
  simp only [binaryOp, hi]
  refine wpAny_holding (wpAny_bind (wpAny_mono h (fun r s' hr => ?_) fun _ _ e => e))
  obtain ⟨v, rfl, hq⟩ := hr
  exact wpAny_pure hq
/-- a class and object alone -/
def mro2 (K : PySem.W.Frag) (C : Addr) : Bool := (PySem.W.clsIn K C).any fun cd => cd.mro == [.ref C, .type "object"]
theorem fillsI_no {h : PySem.Heap} {add : Bool} (X : K.In h) (hc : mro2 K C = true) (h1 : PySem.W.findIn K (.ref C) (dunderI nm) = some none) (h2 : PySem.W.findIn K (.type "object") (dunderI nm) = some none) :
    PySem.W.Looks (model prog w) h (fillsInplaceSlot (.ref C) nm add) false := by
  obtain ⟨cd, hcd, hm⟩ := PySem.W.any_some hc
  have hm' := beq_iff_eq.mp hm
  intro A Q E s k q
  have Lm : PySem.W.Looks (model prog w) h (mroOf (.ref C)) cd.mro := (PySem.W.looks_clsIn X hcd).andThen (f := fun cd => pure cd.mro) .now
  have Lm' := Lm.keeps k
  obtain ⟨hh, g, d, tt, os⟩ := s
  have X' : K.In hh := X.keeps k
  have L1 : PySem.W.Looks (model prog w) hh (typeLookup (.ref C) (dunderI nm)) none := PySem.W.looks_findIn X' h1
  have L2 : PySem.W.Looks (model prog w) hh (typeLookup (.type "object") (dunderI nm)) none := PySem.W.looks_findIn X' h2
  unfold fillsInplaceSlot
  refine wpAny_bind (Lm'.at ?_)
  rw [hm', List.anyM_cons]
  refine wpAny_bind ?_
  refine wpAny_bind (L1.at ?_)
  refine wpAny_pure ?_
  simp only [Bool.false_eq_true, if_false]
  rw [List.anyM_cons]
  refine wpAny_bind ?_
  refine wpAny_bind (L2.at ?_)
  refine wpAny_pure ?_
  simp only [Bool.false_eq_true, if_false]
  rw [List.anyM_nil]
  exact wpAny_pure q
theorem inpl_of {op : Operator} {b : Value} {Q : Value → Shared → Prop} (X : K.In s.heap) (I : PySem.W.InstAt s.heap x ox C od) (hc : mro2 K C = true) (h1 : PySem.W.findIn K (.ref C) (dunderI op.info.2) = some none) (h2 : PySem.W.findIn K (.type "object") (dunderI op.info.2) = some none)
    (h : wpAny (model prog w) A (binaryOp1 op.info.2 (.ref x) b) (Tells Q) E s) : wpAny (model prog w) A (inplaceOp op (.ref x) b) Q E s := by
  unfold inplaceOp
  refine wpAny_holding (wpAny_bind (I.type.here (wpAny_bind ((fillsI_no X hc h1 h2).here ?_))))
  simp only [Bool.false_eq_true, if_false]
  refine wpAny_bind (wpAny_mono h (fun r s' hr => ?_) fun _ _ e => e)
  obtain ⟨v, rfl, hq⟩ := hr
  exact wpAny_pure hq
/-- abs(x) -/
theorem abs_own {Q : Value → Shared → Prop} (X : K.In s.heap) (I : PySem.W.InstAt s.heap x ox C od) (hs : PySem.W.findIn K (.ref C) (Str.ofString "__abs__") = some (some (.ref f))) (hf : PySem.W.isFn K (.ref f) = true)
    (h : wpAny (model prog w) A.in1 (call (.ref f) [.ref x]) Q E s) : wpAny (model prog w) A (call (.builtin "abs") [.ref x]) Q E s := by
  refine PySem.Calls.call_function_entry kind_abs plain_abs entry_abs (args_abs _) ?_
  unfold Builtin.«abs»
  refine wpAny_bind (m := oneArg "abs" _) (wpAny_pure ?_)
  refine wpAny_bind (m := callSpecial? (.ref x) (Str.ofString "__abs__")) (PySem.W.special_fn X I hs (beq_iff_eq.mp hf) (wpAny_mono h (fun r s' hr => ?_) fun _ _ y => y))
  exact wpAny_pure ⟨r, rfl, hr⟩
theorem type_bool' : isType (.type "bool") = pure true := by first | rfl | kernel_rfl
/-- bool(x) -/
theorem bool_own {Q : Value → Shared → Prop} (X : K.In s.heap) (I : PySem.W.InstAt s.heap x ox C od) (hs : PySem.W.findIn K (.ref C) (Str.ofString "__bool__") = some (some (.ref f))) (hf : PySem.W.isFn K (.ref f) = true)
    (h : wpAny (model prog w) A.in1.in1 (call (.ref f) [.ref x]) (fun r s1 => ∃ b, r = Value.bool b ∧ Q r s1) E s) : wpAny (model prog w) A (call (.type "bool") [.ref x]) Q E s := by
  refine callType_codes (T := "bool") (Bi := Builtin.«object.__init__») (Q₁ := fun r s1 => ∃ b, r = Value.bool b ∧ Q r s1) PySem.F.called_bool (PySem.F.typeCall_bool_1 _) PySem.F.entry_object_init ?_ ?_
  · refine codeAny_of_tree ?_
    show wpAny _ A.in1.in1 (do checkBuiltinCall "bool.__new__" ⟨[.type "bool", .ref x], []⟩; again (.builtin "bool.__new__" ⟨[.type "bool", .ref x], []⟩)) _ _ s
    refine wpAny_bind (wpAny_of_eq (PySem.F.newCall_bool_1 _) (wpAny_pure ⟨plainId_quiet (by decide +kernel) _, codeAny_builtin PySem.F.entry_bool_new ?_⟩))
    rw [Around.under_plainId (by decide +kernel) _]
    unfold Builtin.«bool.__new__»
    refine wpAny_bind (wpAny_of_eq (a := true) type_bool' ?_)
    refine PySem.W.KFB.if_not rfl ?_
    refine wpAny_bind (wpAny_of_eq (a := true) PySem.F.conv_sub_bool ?_)
    refine PySem.W.KFB.if_not rfl ?_
    have tr : wpAny (model prog w) A.in1.in1 (truthy (.ref x)) (fun b s1 => Q (.bool b) s1) E s := by
      unfold truthy
      refine wpAny_bind (m := callSpecial? (.ref x) (Str.ofString "__bool__")) (PySem.W.special_fn X I hs (beq_iff_eq.mp hf) (wpAny_mono h (fun r s' hr => ?_) fun _ _ y => y))
      obtain ⟨b, rfl, hq⟩ := hr
      exact wpAny_pure hq
    repeat (any_goals (first | assumption | (refine wpAny_bind (m := truthy (.ref x)) (wpAny_mono tr (fun b s' hb => ?_) fun _ _ y => y)) | wp_step))
    exact ⟨b, rfl, hb⟩
  · rintro obj s1 ⟨b, rfl, hq⟩
    exact ⟨rfl, PySem.F.args_object_init_2 _ _, object_init_meets PySem.F.called_bool.init.lookup PySem.F.called_bool.made (by decide) prog w A.in1 _ s1 ⟨rfl, rfl, hq⟩⟩
end
/-- an operator of a class, as the top has it -/
structure OpF (K : PySem.W.Frag) (C f : Addr) (nm : String) : Prop where
  self1 : PySem.W.selfFirst K C = true
  at_ : PySem.W.findIn K (.ref C) (PySem.dunder nm) = some (some (.ref f))
  fn : PySem.W.isFn K (.ref f) = true
  rv : ∃ rc, PySem.W.findIn K (.ref C) (dunderR nm) = some rc ∧ (rc = none ∨ ∃ g : Addr, rc = some (.ref g))
  s1 : ∃ fo, PySem.W.findIn K (.type "str") (PySem.dunder nm) = some fo
  s2 : ∃ ro, PySem.W.findIn K (.type "str") (dunderR nm) = some ro
  sub : PySem.W.subIn K (.type "str") (.ref C) = some false
structure OpRF (K : PySem.W.Frag) (C f : Addr) (nm : String) : Prop where
  self1 : PySem.W.selfFirst K C = true
  at_ : ∃ g : Addr, PySem.W.findIn K (.ref C) (PySem.dunder nm) = some (some (.ref g))
  rt : PySem.W.findIn K (.ref C) (dunderR nm) = some (some (.ref f))
  fn : PySem.W.isFn K (.ref f) = true
  s1 : PySem.W.findIn K (.type "str") (PySem.dunder nm) = some none
  s2 : PySem.W.findIn K (.type "str") (dunderR nm) = some none
/-- .. in place: by the plain one -/
structure OpIF (K : PySem.W.Frag) (C : Addr) (nm : String) : Prop where
  m2 : mro2 K C = true
  i1 : PySem.W.findIn K (.ref C) (dunderI nm) = some none
  i2 : PySem.W.findIn K (.type "object") (dunderI nm) = some none
section
variable {X : Cx} {W : Wd} {Wx : WX} {k k2 : Nat} {f f2 : Addr} {fd fd2 : FuncData} {ps ps2 : List Str} {σ : L2.St} {H : Hp} {s : Shared} {Q : VK} {pins : List (Addr × Obj)} {a b : Expr} {fa fb : SE} {pos : Pos} {α : List Addr} {h : IR.Heap} {E : XK}
theorem sem_2V {op : O2} (q : semE W Wx (e_2 op fa fb) σ H Q) : semE W Wx fa σ H fun v H1 => semE W Wx fb σ H1 fun w H2 => ∃ α h x y, HCorr W α h H2 ∧ Rep W.K α H2 x v ∧ Rep W.K α H2 y w ∧ Run W (RV W) (WE Wx σ) α H2 Q (op x y h) :=
  bindG (g := fun env x h1 => (fb env h1).bind fun y h2 => op x y h2) q fun α env x h1 v H1 c rx k => bindR (g := fun y h2 => op x y h2) c k fun α2 y h2 w H2 le c2 ry k2 => ⟨α2, h2, x, y, c2.hc, rx.mono le, ry, k2⟩
/-- an instance as the machine sees it -/
theorem ins_at {c : Nat} {x : D} {v : V} {u : Value} (hc : HCorr W α h H) (rx : Rep W.K α H x v) (e : clsD h x = some c) (I : L2.Inv X pins σ H s) (r : RelV v u) : ∃ a ox od, u = .ref a ∧ v = .ref a ∧ PySem.W.InstAt s.heap a ox (W.cl c) (some od) := by
  unfold clsD at e
  cases x with
  | ref k =>
    simp only at e
    split at e
    · rename_i c' fs e1
      cases e
      obtain ⟨a, ea, rfl⟩ := of_ref rx
      obtain ⟨dx, vs, hp, rr⟩ := hc.ob k _ a e1 ea
      obtain ⟨mA, O, _, _, _, _⟩ := ins_get I.hok hp
      obtain ⟨od, J, _⟩ := O.look
      cases (show u = Value.ref a from r)
      exact ⟨a, _, od, rfl, rfl, J⟩
    · cases e
  | _ => cases e
theorem back_ep {v : Value} {s' : Shared} (z : EP X pins σ Q v s') : PySem.W.CmpBack (EP X pins σ Q) v s' := by
  obtain ⟨z', H', I', rz, qz⟩ := z
  exact SlX.cmpback rz ⟨z', H', I', rz, qz⟩
/-- the operator's own call -/
theorem own_bin1 {nm : String} {c fn fr : Nat} {κ : Kap} {x y : D} {v w : V} {u t : Value} (hK : W.K = X.K) (O : OpF X.K (W.cl c) f nm) (F : FnG X.prog X.w X.K X.mg X.base k f fd ps (spG W (κ.fn fn))) (bd : Binds X.K fd ps [])
    (O2 : OpRF X.K (W.cl c) f2 nm) (F2 : FnG X.prog X.w X.K X.mg X.base k2 f2 fd2 ps2 (spG W (κ.fn fr))) (bd2 : Binds X.K fd2 ps2 [])
    (hx : PassesAt (L2.CX X.prog X.w) X σ E) (hr : Room k X.A) (hr2 : Room k2 X.A) (hn : NoG X.A) (I : L2.Inv X pins σ H s) (hc : HCorr W α h H) (rx : Rep W.K α H x v) (ry : Rep W.K α H y w) (ru : RelV v u) (rt : RelV w t)
    (q : Run W (RV W) E α H Q (o_own κ c fn fr x y h)) : wpAny (model X.prog X.w) X.A (binaryOp1 nm u t) (Tells (EP X pins σ Q)) X.xe s := by
  unfold o_own at q
  split at q
  · rename_i e1
    split at q
    · rename_i ok
      obtain ⟨a, ox, od, rfl, rfl, J⟩ := ins_at hc rx e1 I ru
      have go : wpAny (model X.prog X.w) X.A (call (.ref f) [.ref a, t]) (PySem.W.CmpBack (EP X pins σ Q)) X.xe s :=
        wpAny_mono (run_g (zs := [V.ref a, w]) F hr hn bd hx I (.cons rfl (.cons rt .nil)) ⟨α, [x, y], h, hc, by simp only [Reps]; exact ⟨_, _, rfl, rx, _, _, rfl, ry, rfl⟩, q⟩) (fun _ _ z => back_ep z) fun _ _ z => z
      cases y with
      | str z =>
        cases of_str ry
        obtain ⟨tk', rfl⟩ := rt
        obtain ⟨rc, r1, r2⟩ := O.rv
        obtain ⟨fo, h1⟩ := O.s1
        obtain ⟨ro, h2⟩ := O.s2
        exact bin1_left (T := "str") I.kIn J (by rfl) O.self1 O.at_ O.fn r1 r2 h1 h2 O.sub go
      | ref k =>
        simp only [okR, beq_iff_eq] at ok
        obtain ⟨b, oy, oe, rfl, rfl, J2⟩ := ins_at hc ry ok I rt
        exact bin1_same I.kIn J J2 O.self1 O.at_ O.fn go
      | _ => cases ok
    · exact q.elim
  · cases x with
    | str z =>
      simp only at q
      split at q
      · rename_i e2
        obtain ⟨b, oy, oe, rfl, rfl, J2⟩ := ins_at hc ry e2 I rt
        have rx' := rx
        cases of_str rx
        obtain ⟨tk', rfl⟩ := ru
        obtain ⟨g, hg⟩ := O2.at_
        refine bin1_refl (T := "str") I.kIn J2 (by rfl) O2.self1 hg O2.rt O2.fn O2.s1 O2.s2 ?_
        exact wpAny_mono (run_g (zs := [V.ref b, V.str (toStr z)]) F2 hr2 hn bd2 hx I (.cons rfl (.cons ⟨_, rfl⟩ .nil)) ⟨α, [y, .str z], h, hc, by simp only [Reps]; exact ⟨_, _, rfl, ry, _, _, rfl, rx', rfl⟩, q⟩) (fun _ _ z => back_ep z) fun _ _ z => z
      · exact q.elim
    | _ => exact q.elim
theorem q_own {op : Operator} {c fn fr : Nat} {κ : Kap} (hK : W.K = X.K) (O : OpF X.K (W.cl c) f op.info.2) (F : FnG X.prog X.w X.K X.mg X.base k f fd ps (spG W (κ.fn fn))) (bd : Binds X.K fd ps [])
    (O2 : OpRF X.K (W.cl c) f2 op.info.2) (F2 : FnG X.prog X.w X.K X.mg X.base k2 f2 fd2 ps2 (spG W (κ.fn fr))) (bd2 : Binds X.K fd2 ps2 [])
    (tk : Takes X Wx) (hr : Room k X.A) (hr2 : Room k2 X.A) (hn : NoG X.A) (ha : PE X a (semE W Wx fa)) (hb : PE X b (semE W Wx fb)) : PE X (.BinOp a op b pos) (semE W Wx (e_2 (o_own κ c fn fr) fa fb)) :=
  ⟨fun pins s σ H Q I hq => wpAny_BinOp (bin ha hb I (sem_2V hq) fun v u s2 x y H2 I2 rx ry q => by
    obtain ⟨α, h, dx, dy, hc, r1, r2, q⟩ := q
    exact bin_of (own_bin1 hK O F bd O2 F2 bd2 (passAt tk σ) hr hr2 hn I2 hc r1 r2 rx ry q))⟩
theorem noX_E {E E' : XK} {r : Res D} (q : Run W (RV W) E α H Q (noX r)) : Run W (RV W) E' α H Q r := by
  cases r with
  | ok b h1 => exact q
  | exc c d h' => exact q.elim
  | bad => exact q.elim
theorem pass00 : PassesAt (L2.CX X.prog X.w) X σ (fun _ _ _ => False) := fun pins H s e s' I c => by
  obtain ⟨_, _, _, _, _, _, _, _, _, _, _, _, z⟩ := c
  exact z.elim
/-- x op= e -/
theorem q_ownAug (i : Nat) {x : Str} {e : Expr} {op : Operator} {pos' : Pos} {c fn fr : Nat} {κ : Kap} (hN : X.N.Nodup) (hK : W.K = X.K) (IF : OpIF X.K (W.cl c) op.info.2) (O : OpF X.K (W.cl c) f op.info.2) (F : FnG X.prog X.w X.K X.mg X.base k f fd ps (spG W (κ.fn fn))) (bd : Binds X.K fd ps [])
    (O2 : OpRF X.K (W.cl c) f2 op.info.2) (F2 : FnG X.prog X.w X.K X.mg X.base k2 f2 fd2 ps2 (spG W (κ.fn fr))) (bd2 : Binds X.K fd2 ps2 [])
    (hr : Room k X.A) (hr2 : Room k2 X.A) (hn : NoG X.A) (he : PE X e (semE W Wx fa)) (hi : X.N[i]? = some x := by rfl) (hx : Loc X.env.scope x := by first | exact Or.inl rfl | exact Or.inr rfl) (hf : X.fn x = true ∨ X.env.scope.names.lookup x = some .local := by first | exact .inl rfl | exact .inr rfl | assumption) :
    PS X (.AugAssign (.Name x pos') op e pos) (semS W Wx (s_aug i (o_ownI κ c fn fr) fa)) := by
  have ip : PIp X op fun v w H Q => ∃ α h x y, HCorr W α h H ∧ Rep W.K α H x v ∧ Rep W.K α H y w ∧ Run W (RV W) (fun _ _ _ => False) α H Q (o_ownI κ c fn fr x y h) := by
    intro pins s σ H v w u t Q I ru rt q
    obtain ⟨α, h, dx, dy, hc, r1, r2, q⟩ := q
    unfold o_ownI at q
    split at q
    · rename_i e1
      obtain ⟨a, ox, od, rfl, rfl, J⟩ := ins_at hc r1 e1 I ru
      exact inpl_of I.kIn J IF.m2 IF.i1 IF.i2 (own_bin1 hK O F bd O2 F2 bd2 pass00 hr hr2 hn I hc r1 r2 ru rt (noX_E q))
    · exact q.elim
  refine (ps_aug hN hi hx he ip hf).imp fun De σ H q => ?_
  obtain ⟨α, env, h, c0, q⟩ := q
  simp only [s_aug] at q
  split at q
  · rename_i d0 e0
    obtain ⟨v0, ev, rv⟩ := c0.en i d0 e0
    refine ⟨v0, ev, ?_⟩
    refine toR (R := RV W) (g := fun y h1 => (o_ownI κ c fn fr d0 y h1).to env fun z h2 => .nx (env.set i (some z)) h2) c0 q fun α' y h1 w H1 le c1 ry k1 => ?_
    refine ⟨α', h1, d0, y, c1.hc, rv.mono le, ry, ?_⟩
    cases e1 : o_ownI κ c fn fr d0 y h1 with
    | bad => rw [e1] at k1; exact k1.elim
    | exc c2 d h' =>
      unfold o_ownI at e1
      split at e1
      · cases e2 : o_own κ c fn fr d0 y h1 <;> (rw [e2] at e1; cases e1)
      · cases e1
    | ok z h2 =>
      rw [e1] at k1
      exact fun α2 H2 v le2 hc2 r => k1 α2 _ H2 le2 ((c1.later le2 hc2).set r)
  · exact q.elim
/-! comparisons -/
/-- a comparison's method -/
structure CmpF (K : PySem.W.Frag) (C f : Addr) (nm : Str) : Prop where
  at_ : PySem.W.findIn K (.ref C) nm = some (some (.ref f))
  fn : PySem.W.isFn K (.ref f) = true
  self : ∀ T ∈ (["NoneType", "bool", "int", "str", "tuple", "list", "dict"] : List String), PySem.W.notFirst K C (.type T) = true
theorem notFirst_self {K : PySem.W.Frag} {C : Addr} : PySem.W.notFirst K C (.ref C) = true := by
  unfold PySem.W.notFirst
  simp
theorem q_cmpOwn {op : CmpOp} {c fn : Nat} {κ : Kap} (hop : ∀ a b, compareOp op a b = richCompare op a b) (hK : W.K = X.K) (O : CmpF X.K (W.cl c) f (cmpInfo op).2.1) (F : FnG X.prog X.w X.K X.mg X.base k f fd ps (spG W (κ.fn fn))) (bd : Binds X.K fd ps [])
    (tk : Takes X Wx) (hr : Room k X.A) (hn : NoG X.A) (ha : PE X a (semE W Wx fa)) (hb : PE X b (semE W Wx fb)) (hm : behindInMarks op b = false) : PE X (.Compare a [op] [b] pos) (semE W Wx (e_2 (o_cmp κ c fn) fa fb)) :=
  ⟨fun pins s σ H Q I hq => wpAny_Compare1 (bin ha hb I (sem_2V hq) fun v u s2 x y H2 I2 rx ry q => by
    obtain ⟨α, h, dx, dy, hc, r1, r2, q⟩ := q
    unfold o_cmp at q
    split at q
    · rename_i e
      obtain ⟨p, ox, od, rfl, rfl, J⟩ := ins_at hc r1 e.1 I2 rx
      obtain ⟨p2, oy, oe, rfl, rfl, J2⟩ := ins_at hc r2 e.2 I2 ry
      obtain ⟨m, hF⟩ := I2.fr
      rw [hop]
      refine PySem.W.cmp_K hr.units0 hF I2.ok.mod.kin J J2.type notFirst_self O.at_ O.fn ?_
      exact wpAny_mono (run_g (zs := [V.ref p, V.ref p2]) F hr hn bd (passAt tk σ) I2 (.cons rfl (.cons rfl .nil)) ⟨α, [dx, dy], h, hc, by simp only [Reps]; exact ⟨_, _, rfl, r1, _, _, rfl, r2, rfl⟩, q⟩) (fun _ _ z => back_ep z) fun _ _ z => z
    · exact q.elim) hm⟩
/-- x in o -/
theorem q_inOwn {c fn : Nat} {κ : Kap} (hK : W.K = X.K) (at_ : PySem.W.findIn X.K (.ref (W.cl c)) (Str.ofString "__contains__") = some (some (.ref f))) (isf : PySem.W.isFn X.K (.ref f) = true) (F : FnG X.prog X.w X.K X.mg X.base k f fd ps (spG W (κ.fn fn))) (bd : Binds X.K fd ps [])
    (tk : Takes X Wx) (hr : Room k X.A) (hn : NoG X.A) (ha : PE X a (semE W Wx fa)) (hb : PE X b (semE W Wx fb)) (hm : behindInMarks .In b = false) : PE X (.Compare a [.In] [b] pos) (semE W Wx (e_2 (o_ownIn κ c fn) fa fb)) :=
  ⟨fun pins s σ H Q I hq => wpAny_Compare1 (bin ha hb I (sem_2V hq) fun v u s2 x y H2 I2 rx ry q => by
    obtain ⟨α, h, dx, dy, hc, r1, r2, q⟩ := q
    unfold o_ownIn at q
    split at q
    · rename_i e
      obtain ⟨p, ox, od, rfl, rfl, J⟩ := ins_at hc r2 e I2 ry
      obtain ⟨m, hF⟩ := I2.fr
      refine PySem.W.in_K hF I2.ok.mod.kin J at_ isf ?_
      refine wpAny_mono (run_g (zs := [V.ref p, x]) (Q := fun z H' => ∃ b, z = .bl b ∧ Q (.bl b) H') F hr hn bd (passAt tk σ) I2 (.cons rfl (.cons rx .nil)) ⟨α, [dy, dx], h, hc, by simp only [Reps]; exact ⟨_, _, rfl, r2, _, _, rfl, r1, rfl⟩, ?_⟩) (fun z s' hz => ?_) fun _ _ z => z
      · cases e1 : κ.fn fn [dy, dx] h with
        | bad => rw [e1] at q; exact q
        | exc c1 d h' => rw [e1] at q; exact q
        | ok z h1 =>
          rw [e1] at q
          simp only [Res.bind_ok] at q
          obtain ⟨b, eb, q⟩ := Run.lift q
          exact fun α' H' u l hc' ru => ⟨b, rep_bl eb ru, q α' H' (.bl b) l hc' r_bl⟩
      · obtain ⟨z', H', I', rz, b, rfl, qb⟩ := hz
        cases (show z = Value.bool b from rz)
        exact wpAny_truthy_bool ⟨.bl b, H', I', rfl, qb⟩
    · exact q.elim) hm⟩
/-- a built-in function whose work an own method does -/
theorem s_low {id : String} {c fn : Nat} {κ : Kap} (hK : W.K = X.K) (step : ∀ {A : Around} {E : Value → Shared → Prop} {s : Shared} {x : Addr} {ox od : Obj} {Q : Value → Shared → Prop}, X.K.In s.heap → PySem.W.InstAt s.heap x ox (W.cl c) (some od) → wpAny (model X.prog X.w) A.in1 (call (.ref f) [.ref x]) Q E s → wpAny (model X.prog X.w) A (call (.builtin id) [.ref x]) Q E s) : True := trivial
end
end IR
end

section
set_option Elab.async false
set_option linter.all false
set_option autoImplicit false
set_option maxRecDepth 100000
set_option maxHeartbeats 4000000
/-! more operations: in, items, slices, built-ins, methods, what is walked -/
namespace IR
open PySem PySem.Spec PyProof.Rows L2
section
variable {W : Wd} {α : List Addr} {H : Hp} {h : IR.Heap} {E : XK} {Q : VK} {K : PySem.W.Frag}
/-- a sequence, by its items -/
theorem items_at (hc : HCorr W α h H) {x : D} {v : V} {ds : List D} (rx : Rep W.K α H x v) (e : items h x = some ds) : ∃ p vs, v = .ref p ∧ (SqL W.K H p vs ∨ SqT W.K H p vs) ∧ Reps W.K α H ds vs := by
  unfold items at e
  split at e
  · cases e; obtain ⟨p, vs, rfl, hp, r⟩ := of_tup rx; exact ⟨p, vs, rfl, .inr hp, r⟩
  · cases e; obtain ⟨p, vs, rfl, hp, r⟩ := of_frz rx; exact ⟨p, vs, rfl, .inl hp.sql, r⟩
  · split at e
    · rename_i k ds' e1
      cases e
      obtain ⟨p, vs, _, rfl, hp, r⟩ := lst_at hc rx e1
      exact ⟨p, vs, rfl, .inl (SqL.of hp), r⟩
    · cases e
  · cases e
/-- flat values -/
def PD.v : PD → V
  | .none => .non
  | .bool b => .bl b
  | .int i => .int i
  | .str s => .str (toStr s)
  | _ => .non
def PD.fl : PD → Prop
  | .list _ => False
  | .tuple _ => False
  | _ => True
theorem flat_v {x : D} {v : V} {p : PD} (r : Rep K α H x v) (e : flat x = some p) : v = p.v ∧ flatV v = true ∧ p.fl := by
  cases x with
  | non => cases e; rw [of_non r]; exact ⟨rfl, rfl, trivial⟩
  | bl b => cases e; rw [of_bl r]; exact ⟨rfl, rfl, trivial⟩
  | int i => cases e; rw [of_int r]; exact ⟨rfl, rfl, trivial⟩
  | str s => cases e; rw [of_str r]; exact ⟨rfl, rfl, trivial⟩
  | _ => cases e
theorem eqV_v {p q : PD} (hp : p.fl) (hq : q.fl) : eqV p.v q.v = p.eqv q := by
  cases p <;> cases q <;> first | exact hp.elim | exact hq.elim | rfl | skip
  exact toStr_inj
theorem flats_v : ∀ {ds : List D} {vs : List V} {ps : List PD}, Reps K α H ds vs → mapO flat ds = some ps → vs.all flatV = true ∧ ∀ (p : PD), p.fl → inV p.v vs = ps.any fun q => q.eqv p
  | [], vs, ps, r, e => by
    simp only [Reps] at r; subst r
    simp only [mapO] at e; cases e
    exact ⟨rfl, fun _ _ => rfl⟩
  | d :: ds, vs, ps, r, e => by
    simp only [Reps] at r
    obtain ⟨v, rs, rfl, rv, rr⟩ := r
    simp only [mapO] at e
    split at e
    · rename_i q qs e1 e2
      cases e
      obtain ⟨x1, x2, x3⟩ := flat_v rv e1
      obtain ⟨y1, y2⟩ := flats_v rr e2
      refine ⟨by simp [x2, y1], fun p hp => ?_⟩
      have := y2 p hp
      unfold inV at this ⊢
      simp only [List.any_cons, this, x1, eqV_v x3 hp]
    · cases e
abbrev rInS : R2 := fun x y H Q => ∃ c z, x = .str ⟨#[c]⟩ ∧ y = .str z ∧ Q (.bl (decide (c ∈ z.cps.toList))) H
abbrev rNiS : R2 := fun x y H Q => ∃ c z, x = .str ⟨#[c]⟩ ∧ y = .str z ∧ Q (.bl (!decide (c ∈ z.cps.toList))) H
theorem op_inAll {X : Cx} : OpR X (compareOp .In) (fun x y H Q => rIn X.K false x y H Q ∨ rInS x y H Q) := op_in_seq.or op_in_sign
theorem op_niAll {X : Cx} : OpR X (compareOp .NotIn) (fun x y H Q => rIn X.K true x y H Q ∨ rNiS x y H Q) := op_notIn_seq.or op_notIn_sign
theorem isIn_of (hc : HCorr W α h H) {x y : D} {v w : V} {b : Bool} (rx : Rep W.K α H x v) (ry : Rep W.K α H y w) (e : isIn h x y = some b) :
    (∃ p xs, w = .ref p ∧ (SqL W.K H p xs ∨ SqT W.K H p xs) ∧ flatV v = true ∧ xs.all flatV = true ∧ inV v xs = b) ∨ ∃ c z, v = .str ⟨#[c]⟩ ∧ w = .str z ∧ decide (c ∈ z.cps.toList) = b := by
  unfold isIn at e
  split at e
  · rename_i s t
    split at e
    · rename_i c
      cases e
      refine .inr ⟨c, toStr t, of_str rx, of_str ry, ?_⟩
      simp
    · cases e
  · split at e
    · rename_i ds e1
      split at e
      · rename_i p qs e2 e3
        cases e
        obtain ⟨a, xs, rfl, hp, r⟩ := items_at hc ry e1
        obtain ⟨x1, x2, x3⟩ := flat_v rx e2
        obtain ⟨y1, y2⟩ := flats_v r e3
        exact .inl ⟨a, xs, rfl, hp, x2, y1, by rw [x1]; exact y2 p x3⟩
      · cases e
    · cases e
theorem s_in : O2S W o_in (fun x y H Q => rIn W.K false x y H Q ∨ rInS x y H Q) := by
  intro E α H h x y v w Q hc rx ry k
  obtain ⟨b, e, k⟩ := Run.lift k
  rcases isIn_of hc rx ry e with ⟨p, xs, rfl, hp, f1, f2, e2⟩ | ⟨c, z, rfl, rfl, e2⟩
  · exact .inl ⟨p, xs, rfl, hp, f1, f2, by simp only [Bool.false_eq_true, if_false]; rw [e2]; exact Run.done k hc r_bl⟩
  · exact .inr ⟨c, z, rfl, rfl, by rw [e2]; exact Run.done k hc r_bl⟩
theorem s_notin : O2S W o_notin (fun x y H Q => rIn W.K true x y H Q ∨ rNiS x y H Q) := by
  intro E α H h x y v w Q hc rx ry k
  obtain ⟨b, e, k⟩ := Run.lift k
  rcases isIn_of hc rx ry e with ⟨p, xs, rfl, hp, f1, f2, e2⟩ | ⟨c, z, rfl, rfl, e2⟩
  · exact .inl ⟨p, xs, rfl, hp, f1, f2, by simp only [if_true]; rw [e2]; exact Run.done k hc r_bl⟩
  · exact .inr ⟨c, z, rfl, rfl, by rw [e2]; exact Run.done k hc r_bl⟩
/-! items -/
theorem ixN_eq {n : Nat} {i : Int} : IR.ixN n i = L2.ixN n i := by
  unfold IR.ixN L2.ixN
  split
  · rfl
  · by_cases hh : 0 ≤ i + n
    · rw [if_pos hh, if_pos (by omega)]
    · rw [if_neg hh, if_neg (by omega)]
theorem atI_rep {ds : List D} {vs : List V} {i : Int} {d : D} (r : Reps K α H ds vs) (e : IR.atI ds i = some d) : ∃ v, L2.atI vs i = some v ∧ Rep K α H d v := by
  unfold IR.atI at e
  unfold L2.atI
  rw [← ixN_eq, ← r.length]
  cases hj : IR.ixN ds.length i with
  | none => rw [hj] at e; cases e
  | some j =>
    rw [hj] at e
    exact r.get e
theorem okT.mem {s : Txt} (o : okT s) {c : Nat} (h : c ∈ s) : okT [c] := fun x hx => by
  simp at hx; subst hx; exact o _ h
theorem s_item : O2S W o_item (rIx W.K) := by
  intro E α H h x y v w Q hc rx ry k
  unfold o_item at k
  split at k
  · rename_i s i
    obtain ⟨hl, k⟩ := Run.ite k
    obtain ⟨d, e, k⟩ := Run.lift1 k
    cases hj : IR.atI s i with
    | none => rw [hj] at e; cases e
    | some c =>
      rw [hj] at e
      cases e
      refine .inr (.inr ⟨toStr s, i, c, of_str rx, of_int ry, by rw [str_len, size_lim]; exact hl, ?_, Run.done k hc (r_str ((ok_str rx).mem ?_))⟩)
      · unfold IR.atI at hj
        unfold L2.atI
        rw [← ixN_eq]
        exact hj
      · unfold IR.atI at hj
        cases hx : IR.ixN s.length i with
        | none => rw [hx] at hj; cases hj
        | some j => rw [hx] at hj; exact List.mem_of_getElem? hj
  · rename_i x' i _
    split at k
    · rename_i ds e1
      obtain ⟨d, e, k⟩ := Run.lift1 k
      obtain ⟨p, vs, rfl, hp, r⟩ := items_at hc rx e1
      obtain ⟨u, hu, ru⟩ := atI_rep r e
      rcases hp with hp | hp
      · exact .inl ⟨p, vs, i, u, rfl, of_int ry, hp, hu, Run.done k hc ru⟩
      · exact .inr (.inl ⟨p, vs, i, u, rfl, of_int ry, hp, hu, Run.done k hc ru⟩)
    · exact k.elim
  · exact k.elim
/-! slices -/
abbrev RSl := V → Option Int → Option Int → Hp → VK → Prop
abbrev rSlAll (K : PySem.W.Frag) : RSl := fun x lo hi H Q => rSlS x lo hi H Q ∨ rSlA K x lo hi H Q ∨ rSlL K x lo hi H Q
theorem sl_all {X : Cx} : SlR X (rSlAll X.K) := by
  intro pins s σ H x v vl vu lo hi sl Q I rx hs pl pu q
  rcases q with q | q | q
  · exact sl_str pins s σ H x v vl vu lo hi sl Q I rx hs pl pu q
  · exact sl_tupA pins s σ H x v vl vu lo hi sl Q I rx hs pl pu q
  · exact sl_list pins s σ H x v vl vu lo hi sl Q I rx hs pl pu q
theorem sIx_eq {n d : Nat} {o : Option Int} : IR.sIx n d o = HT.sIx n d o := by
  cases o with
  | none => rfl
  | some i => rfl
theorem cut_rep {ds : List D} {vs : List V} {lo hi : Option Int} (r : Reps K α H ds vs) : Reps K α H (cut ds lo hi) (cutV vs lo hi) := by
  unfold cut cutV
  rw [sIx_eq, sIx_eq, ← r.length]
  exact (r.drop _).take _
theorem cut_whole {β : Type} {xs : List β} {lo hi : Option Int} (h : HT.sIx xs.length 0 lo = 0 ∧ HT.sIx xs.length xs.length hi = xs.length) : cut xs lo hi = xs := by
  unfold cut
  rw [sIx_eq, sIx_eq, h.1, h.2]
  simp
theorem okT.sub {s t : Txt} (o : okT s) (h : ∀ c ∈ t, c ∈ s) : okT t := fun c hc => o c (h c hc)
theorem s_slice {x : D} {v : V} {lo hi : Option Int} (hc : HCorr W α h H) (rx : Rep W.K α H x v) (k : Run W (RV W) E α H Q (o_slice x lo hi h)) : rSlAll W.K v lo hi H Q := by
  unfold o_slice at k
  split at k
  · rename_i s
    obtain ⟨hl, k⟩ := Run.ite k
    refine .inl ⟨toStr s, of_str rx, by rw [str_len, size_lim]; exact hl, ?_⟩
    have e : cutS (toStr s) lo hi = toStr (cut s lo hi) := by
      unfold cutS cut
      rw [str_len, sIx_eq, sIx_eq]
    rw [e]
    refine Run.done k hc (r_str ((ok_str rx).sub fun c hc => ?_))
    unfold cut at hc
    exact List.mem_of_mem_drop (List.mem_of_mem_take hc)
  · rename_i ds
    obtain ⟨p, vs, rfl, hp, r⟩ := of_tup rx
    refine .inr (.inl ⟨p, vs, rfl, hp, fun hw => ?_, fun hw q hq => ?_⟩)
    · have : cut ds lo hi = ds := cut_whole (by rw [r.length]; exact hw)
      rw [this] at k
      exact Run.done k hc (by simp only [RV, Rep]; exact ⟨p, vs, rfl, hp, r⟩)
    · obtain ⟨le, hc2, rr⟩ := new_tup hq hc (cut_rep (lo := lo) (hi := hi) r)
      exact k _ _ _ le hc2 rr
  · rename_i ds
    obtain ⟨p, vs, rfl, hp, r⟩ := of_frz rx
    refine .inr (.inr ⟨p, vs, rfl, hp.sql, fun q hq => ?_⟩)
    obtain ⟨le, hc2, rr⟩ := new_lst hq hc (cut_rep (lo := lo) (hi := hi) r)
    exact k _ _ _ le hc2 rr
  · split at k
    · rename_i e1
      obtain ⟨p, vs, _, rfl, hp, r⟩ := lst_at hc rx e1
      refine .inr (.inr ⟨p, vs, rfl, SqL.of hp, fun q hq => ?_⟩)
      obtain ⟨le, hc2, rr⟩ := new_lst hq hc (cut_rep (lo := lo) (hi := hi) r)
      exact k _ _ _ le hc2 rr
    · exact k.elim
  · exact k.elim
end
section
variable {W : Wd} {Wx : WX} {X : Cx} {a b e : Expr} {fa fb : SE} {pos p2 : Pos} {lo hi : Option Expr} {fl fh : SO}
theorem q_item (hK : W.K = X.K) (ha : PE X a (semE W Wx fa)) (hb : PE X b (semE W Wx fb)) (hs : PlainIx b := by intro _ _; rfl) : PE X (.Subscript a b pos) (semE W Wx (e_2 o_item fa fb)) :=
  (pe_ix (r := rIx X.K) ix_seq ha hb hs).imp fun _ _ _ q => sem_2 (hK ▸ s_item) q
theorem qo_none : PO X none (semO W Wx so_none) := ⟨fun pins s σ H Q I ⟨α, env, h, c, k⟩ => po_none.run pins s σ H Q I (Run.done k c.hc rfl)⟩
theorem qo_some (he : PE X e (semE W Wx fa)) : PO X (some e) (semO W Wx (so_some fa)) := ⟨fun pins s σ H Q I q => (po_some he).run pins s σ H Q I (bindG (g := fun env x h1 => (liftO (asI x) h1).bind fun i h1 => Res.ok (some i) h1) q fun α env x h1 v H1 c rx k => by
    obtain ⟨i, e, k⟩ := Run.lift k
    cases x with
    | int j => cases e; exact ⟨i, of_int rx, Run.done k c.hc rfl⟩
    | _ => cases e)⟩
theorem q_slice (hK : W.K = X.K) (ha : PE X a (semE W Wx fa)) (hl : PO X lo (semO W Wx fl)) (hh : PO X hi (semO W Wx fh)) : PE X (.Subscript a (.Slice lo hi none p2) pos) (semE W Wx (e_slice fa fl fh)) :=
  (pe_slice sl_all ha hl hh).imp fun σ H Q q => bindG (g := fun env x h1 => (fl env h1).bind fun i h2 => (fh env h2).bind fun j h3 => o_slice x i j h3) q fun α env x h1 v H1 c rx k =>
    bindR (g := fun i h2 => (fh env h2).bind fun j h3 => o_slice x i j h3) c k fun α2 i h2 i' H2 le2 c2 ei k2 => by
      cases ei
      exact bindR (g := fun j h3 => o_slice x i j h3) c2 k2 fun α3 j h3 j' H3 le3 c3 ej k3 => by
        cases ej
        exact hK ▸ s_slice c3.hc ((rx.mono le2).mono le3) k3
/-! calls of built-ins -/
theorem rep1 {α : List Addr} {H : Hp} {x : D} {vs : List V} (r : Reps W.K α H [x] vs) : ∃ v, vs = [v] ∧ Rep W.K α H x v := by
  simp only [Reps] at r
  obtain ⟨v, r1, rfl, rv, rfl⟩ := r
  exact ⟨v, rfl, rv⟩
theorem rep2 {α : List Addr} {H : Hp} {x y : D} {vs : List V} (r : Reps W.K α H [x, y] vs) : ∃ v w, vs = [v, w] ∧ Rep W.K α H x v ∧ Rep W.K α H y w := by
  simp only [Reps] at r
  obtain ⟨v, r1, rfl, rv, w, r2, rfl, rw', rfl⟩ := r
  exact ⟨v, w, rfl, rv, rw'⟩
abbrev rLenAll (K : PySem.W.Frag) : List V → Hp → VK → Prop := fun xs H Q => ∃ x n, xs = [x] ∧ LenV K x H n ∧ Q (.int n) H
theorem s_len : OLS W b_len (rLenAll W.K) := by
  intro E α H h xs vs Q hc rx k
  unfold b_len at k
  split at k
  · rename_i x
    obtain ⟨v, rfl, rv⟩ := rep1 rx
    obtain ⟨d, e, k⟩ := Run.lift1 k
    cases hn : lenD h x with
    | none => rw [hn] at e; cases e
    | some n =>
      rw [hn] at e
      cases e
      refine ⟨v, n, rfl, ?_, Run.done k hc r_int⟩
      unfold lenD at hn
      split at hn
      · rename_i s
        split at hn
        · rename_i hl
          cases hn
          rw [of_str rv]
          exact ⟨by rw [str_len, size_lim]; exact hl, by rw [str_len]⟩
        · cases hn
      · cases hn; obtain ⟨p, us, rfl, hp, r⟩ := of_tup rv; exact .inr ⟨us, hp, r.length⟩
      · cases hn; obtain ⟨p, us, rfl, hp, r⟩ := of_frz rv; exact .inl ⟨us, hp.sql, r.length⟩
      · split at hn
        · rename_i k ds e1
          cases hn
          obtain ⟨p, us, _, rfl, hp, r⟩ := lst_at hc rv e1
          exact .inl ⟨us, SqL.of hp, r.length⟩
        · cases hn
      · cases hn
  · exact k.elim
abbrev rAbsI : List V → Hp → VK → Prop := fun xs H Q => ∃ i, xs = [.int i] ∧ Q (.int (if i < 0 then -i else i)) H
theorem s_abs : OLS W b_abs rAbsI := by
  intro E α H h xs vs Q hc rx k
  unfold b_abs at k
  split at k
  · rename_i i
    obtain ⟨v, rfl, rv⟩ := rep1 rx
    exact ⟨i, by rw [of_int rv], Run.done k hc r_int⟩
  · exact k.elim
abbrev rInt1 : List V → Hp → VK → Prop := fun xs H Q => (∃ i, xs = [.int i] ∧ Q (.int i) H) ∨ ∃ k, xs = [.bl k] ∧ Q (.int (if k then 1 else 0)) H
theorem s_int1 : OLS W b_int rInt1 := by
  intro E α H h xs vs Q hc rx k
  unfold b_int at k
  split at k
  · rename_i i
    obtain ⟨v, rfl, rv⟩ := rep1 rx
    exact .inl ⟨i, by rw [of_int rv], Run.done k hc r_int⟩
  · rename_i i
    obtain ⟨v, rfl, rv⟩ := rep1 rx
    exact .inr ⟨i, by rw [of_bl rv], Run.done k hc r_int⟩
  · exact k.elim
abbrev rMaxI : List V → Hp → VK → Prop := fun xs H Q => ∃ i j, xs = [.int i, .int j] ∧ Q (.int (if j > i then j else i)) H
abbrev rMinI : List V → Hp → VK → Prop := fun xs H Q => ∃ i j, xs = [.int i, .int j] ∧ Q (.int (if j < i then j else i)) H
theorem s_max : OLS W b_max rMaxI := by
  intro E α H h xs vs Q hc rx k
  unfold b_max at k
  split at k
  · rename_i i j
    obtain ⟨v, w, rfl, rv, rw'⟩ := rep2 rx
    exact ⟨i, j, by rw [of_int rv, of_int rw'], Run.done k hc r_int⟩
  · exact k.elim
theorem s_min : OLS W b_min rMinI := by
  intro E α H h xs vs Q hc rx k
  unfold b_min at k
  split at k
  · rename_i i j
    obtain ⟨v, w, rfl, rv, rw'⟩ := rep2 rx
    exact ⟨i, j, by rw [of_int rv, of_int rw'], Run.done k hc r_int⟩
  · exact k.elim
abbrev rTupOf (K : PySem.W.Frag) : List V → Hp → VK → Prop := fun xs H Q => ∃ p ys, xs = [.ref p] ∧ ((SqL K H p ys ∧ ∀ l, H l = none → Q (.ref l) (upd H l (.tup ys))) ∨ (SqT K H p ys ∧ Q (.ref p) H))
theorem s_tuple : OLS W b_tuple (rTupOf W.K) := by
  intro E α H h xs vs Q hc rx k
  unfold b_tuple at k
  split at k
  · rename_i x
    obtain ⟨v, rfl, rv⟩ := rep1 rx
    obtain ⟨d, e, k⟩ := Run.lift1 k
    cases hi : items h x with
    | none => rw [hi] at e; cases e
    | some ds =>
      rw [hi] at e
      cases e
      obtain ⟨p, ys, rfl, hp, r⟩ := items_at hc rv hi
      refine ⟨p, ys, rfl, ?_⟩
      rcases hp with hp | hp
      · refine .inl ⟨hp, fun l hl => ?_⟩
        obtain ⟨le, hc2, rr⟩ := new_tup hl hc r
        exact k _ _ _ le hc2 rr
      · exact .inr ⟨hp, Run.done k hc (by simp only [RV, Rep]; exact ⟨p, ys, rfl, hp, r⟩)⟩
  · exact k.elim
abbrev rListOf (K : PySem.W.Frag) : List V → Hp → VK → Prop := fun xs H Q => ∃ p ys, xs = [.ref p] ∧ (SqL K H p ys ∨ SqT K H p ys) ∧ ∀ l, H l = none → Q (.ref l) (upd H l (.lst ys))
theorem s_list : OLS W b_list (rListOf W.K) := by
  intro E α H h xs vs Q hc rx k
  unfold b_list at k
  split at k
  · rename_i x
    obtain ⟨v, rfl, rv⟩ := rep1 rx
    obtain ⟨ds, e, k⟩ := Run.lift k
    obtain ⟨p, ys, rfl, hp, r⟩ := items_at hc rv e
    refine ⟨p, ys, rfl, hp, fun l hl => ?_⟩
    obtain ⟨le, hc2, rr⟩ := new_lst hl hc r
    exact k _ _ _ le hc2 rr
  · exact k.elim
theorem bools_rep {α : List Addr} {H : Hp} : ∀ {ds : List D} {vs : List V} {bs : List Bool}, Reps W.K α H ds vs → mapO asB ds = some bs → vs = bs.map V.bl
  | [], vs, bs, r, e => by simp only [Reps] at r; subst r; simp only [mapO] at e; cases e; rfl
  | d :: ds, vs, bs, r, e => by
    simp only [Reps] at r
    obtain ⟨v, rs, rfl, rv, rr⟩ := r
    simp only [mapO] at e
    split at e
    · rename_i q qs e1 e2
      cases e
      rw [rep_bl e1 rv, bools_rep rr e2]
      rfl
    · cases e
theorem bools_at {α : List Addr} {H : Hp} {h : IR.Heap} {x : D} {v : V} {bs : List Bool} (hc : HCorr W α h H) (rv : Rep W.K α H x v) (e : bools h x = some bs) : ∃ a, v = .ref a ∧ SqL W.K H a (bs.map V.bl) := by
  unfold bools at e
  split at e
  · split at e
    · rename_i e1
      obtain ⟨p, us, _, rfl, hp, r⟩ := lst_at hc rv e1
      exact ⟨p, rfl, by rw [← bools_rep r e]; exact SqL.of hp⟩
    · cases e
  · cases e
theorem s_all : OLS W b_all (rAll W.K) := by
  intro E α H h xs vs Q hc rx k
  unfold b_all at k
  split at k
  · rename_i x
    obtain ⟨v, rfl, rv⟩ := rep1 rx
    obtain ⟨bs, e, k⟩ := Run.lift k
    obtain ⟨a, rfl, hp⟩ := bools_at hc rv e
    exact ⟨a, bs, rfl, hp, Run.done k hc r_bl⟩
  · exact k.elim
theorem s_any : OLS W b_any (rAny W.K) := by
  intro E α H h xs vs Q hc rx k
  unfold b_any at k
  split at k
  · rename_i x
    obtain ⟨v, rfl, rv⟩ := rep1 rx
    obtain ⟨bs, e, k⟩ := Run.lift k
    obtain ⟨a, rfl, hp⟩ := bools_at hc rv e
    exact ⟨a, bs, rfl, hp, Run.done k hc r_bl⟩
  · exact k.elim
end
end IR
end

section
set_option Elab.async false
set_option linter.all false
set_option autoImplicit false
set_option maxRecDepth 100000
set_option maxHeartbeats 4000000
/-! repr of data -/
namespace IR
open PySem PySem.Spec PyProof.Rows L2
def okS (s : Str) : Prop := ∀ c ∈ s.cps.toList, c < 1114112
theorem okS.app {s t : Str} (a : okS s) (b : okS t) : okS (s ++ t) := by
  intro c hc
  have e : (s ++ t).cps.toList = s.cps.toList ++ t.cps.toList := by
    show (s.cps ++ t.cps).toList = _
    simp
  rw [e] at hc
  exact (List.mem_append.mp hc).elim (a c) (b c)
theorem char_lt (c : Char) : c.toNat < 1114112 := by
  have h := c.valid
  simp only [UInt32.isValidChar, Nat.isValidChar] at h
  show c.val.toNat < 1114112
  omega
theorem okS_of (s : String) : okS (Str.ofString s) := by
  intro c hc
  unfold Str.ofString at hc
  rw [cpsOfBytes_string] at hc
  simp only [List.mem_map] at hc
  obtain ⟨x, _, rfl⟩ := hc
  exact char_lt x
theorem ok_ite {p : Prop} [Decidable p] {a b : List Nat} (ha : ∀ x ∈ a, x < 1114112) (hb : ∀ x ∈ b, x < 1114112) : ∀ x ∈ (if p then a else b), x < 1114112 := by
  intro x hx
  by_cases hp : p
  · rw [if_pos hp] at hx; exact ha x hx
  · rw [if_neg hp] at hx; exact hb x hx
theorem ok_two {a b : Nat} (ha : a < 1114112) (hb : b < 1114112) : ∀ x ∈ [a, b], x < 1114112 := by
  intro x hx
  rcases List.mem_cons.mp hx with h | h
  · subst h; exact ha
  · rw [List.mem_singleton] at h; subst h; exact hb
theorem ok_ap {a b : List Nat} (ha : ∀ x ∈ a, x < 1114112) (hb : ∀ x ∈ b, x < 1114112) : ∀ x ∈ a ++ b, x < 1114112 := fun x hx => (List.mem_append.mp hx).elim (ha x) (hb x)
theorem ok_hex (w c : Nat) : ∀ x ∈ (List.replicate (w - ((Nat.toDigits 16 c).map Char.toNat).length) 48 ++ (Nat.toDigits 16 c).map Char.toNat), x < 1114112 := by
  intro x hx
  rcases List.mem_append.mp hx with h | h
  · rw [(List.mem_replicate.mp h).2]; decide
  · obtain ⟨y, _, rfl⟩ := List.mem_map.mp h
    exact char_lt y
theorem ok_char {q c : Nat} (hc : c < 1114112) : ∀ x ∈ Builtin.Str.reprChar q c, x < 1114112 := by
  unfold Builtin.Str.reprChar
  refine ok_ite (ok_two (by decide) hc) (ok_ite (ok_two (by decide) (by decide)) (ok_ite (ok_two (by decide) (by decide)) (ok_ite (ok_two (by decide) (by decide)) (ok_ite ?_ (ok_ite (ok_ap (ok_two (by decide) (by decide)) (ok_hex 2 c)) (ok_ite (ok_ap (ok_two (by decide) (by decide)) (ok_hex 4 c)) (ok_ap (ok_two (by decide) (by decide)) (ok_hex 8 c))))))))
  intro x hx
  rw [List.mem_singleton] at hx; subst hx; exact hc
theorem ok_fold {q : Nat} (hq : q < 1114112) : ∀ (l : List Nat) (acc : Array Nat), (∀ c ∈ l, c < 1114112) → (∀ x ∈ acc.toList, x < 1114112) → ∀ x ∈ (l.foldl (fun out c => out ++ (Builtin.Str.reprChar q c).toArray) acc).toList, x < 1114112
  | [], acc, _, ha => ha
  | c :: l, acc, hl, ha => by
    rw [List.foldl_cons]
    refine ok_fold hq l _ (fun z hz => hl z (List.mem_cons_of_mem _ hz)) fun x hx => ?_
    simp only [Array.toList_append, List.mem_append] at hx
    exact hx.elim (ha x) (ok_char (hl c List.mem_cons_self) x)
theorem okS_repr {s : Str} (o : okS s) : okS (reprText s) := by
  have hq : reprQuote s < 1114112 := by unfold reprQuote; split <;> decide
  intro c hc
  unfold reprText at hc
  simp only [Array.toList_push, List.mem_append, List.mem_singleton] at hc
  rcases hc with h | h
  · rw [← Array.foldl_toList] at h
    exact ok_fold hq _ _ o (fun x hx => by simp at hx; subst hx; exact hq) c h
  · subst h; exact hq
theorem okS_from : ∀ (ts : List Str) (k : Nat) (acc : Str), (∀ t ∈ ts, okS t) → okS acc → okS (textFrom k acc ts)
  | [], k, acc, _, h => h
  | t :: r, k, acc, ht, h => okS_from r (k + 1) _ (fun z hz => ht z (List.mem_cons_of_mem _ hz)) ((h.app (okS_of _)).app (ht t List.mem_cons_self))
theorem okS_join (sep : Str) (hs : okS sep) : ∀ ts : List Str, (∀ t ∈ ts, okS t) → okS (Str.join sep ts)
  | [], _ => by intro c hc; simp [Str.join, Str.empty] at hc
  | [x], h => h x List.mem_cons_self
  | x :: y :: r, h => ((h x List.mem_cons_self).app hs).app (okS_join sep hs (y :: r) fun z hz => h z (List.mem_cons_of_mem _ hz))
/-! data with dicts -/
def PX.ks : KY → PyData
  | .i n => .int n
  | .s x => .str (toStr x)
mutual
def PX.to : PX → PyData
  | .none => .none
  | .bool b => .bool b
  | .int i => .int i
  | .str s => .str (toStr s)
  | .list xs => .list (PX.tos xs)
  | .tuple xs => .tuple (PX.tos xs)
  | .dict kvs => .dict (PX.tok kvs)
def PX.tos : List PX → List PyData
  | [] => []
  | d :: ds => PX.to d :: PX.tos ds
def PX.tok : List (KY × PX) → List (PyData × PyData)
  | [] => []
  | (k, v) :: r => (PX.ks k, PX.to v) :: PX.tok r
end
mutual
/-- an own value reads as such data -/
inductive DpX (K : PySem.W.Frag) (H : Hp) : V → PX → Prop
  | non : DpX K H .non .none
  | bl (b : Bool) : DpX K H (.bl b) (.bool b)
  | int (i : Int) : DpX K H (.int i) (.int i)
  | str (x : Txt) : okT x → DpX K H (.str (toStr x)) (.str x)
  | lst {a : Addr} {xs : List V} {ps : List PX} : SqL K H a xs → DpXs K H xs ps → DpX K H (.ref a) (.list ps)
  | tup {a : Addr} {xs : List V} {ps : List PX} : SqT K H a xs → DpXs K H xs ps → DpX K H (.ref a) (.tuple ps)
  | dic {a : Addr} {kvs : List (Key × V)} {ps : List (KY × PX)} : H a = some (.dK kvs) → DpXk K H kvs ps → DpX K H (.ref a) (.dict ps)
inductive DpXs (K : PySem.W.Frag) (H : Hp) : List V → List PX → Prop
  | nil : DpXs K H [] []
  | cons {v : V} {vs : List V} {d : PX} {ds : List PX} : DpX K H v d → DpXs K H vs ds → DpXs K H (v :: vs) (d :: ds)
inductive DpXk (K : PySem.W.Frag) (H : Hp) : List (Key × V) → List (KY × PX) → Prop
  | nil : DpXk K H [] []
  | cons {k : KY} {v : V} {vs : List (Key × V)} {d : PX} {ds : List (KY × PX)} : okKY k → DpX K H v d → DpXk K H vs ds → DpXk K H ((kyK k, v) :: vs) ((k, d) :: ds)
end
/-- the library's own table of modules is no list, no dict of ours -/
def SysD (K : PySem.W.Frag) : Prop := ∃ o, K.lookup sysModules = some o ∧ o.cls = .type "dict"
def kyD : Key → PyData
  | .inl i => .int i
  | .inr x => .str x
theorem kyD_ks (k : KY) : kyD (kyK k) = PX.ks k := by cases k <;> rfl
theorem rdKey {h : PySem.Heap} {P : Program} {w : World} : ∀ k key, (mixKind P w).is k key = true → Reads h key (kyD k) [] := by
  intro k key e
  rcases keyIs_shape e with ⟨i, t, rfl, rfl⟩ | ⟨x, t, rfl, rfl⟩
  · exact .int i t
  · exact .str x t
section
variable {X : Cx} {pins : List (Addr × Obj)} {σ : L2.St} {H : Hp} {s : Shared}
mutual
theorem DpX.reads (hsy : SysD X.K) (I : Inv X pins σ H s) : ∀ (p : PX) (v : V) (u : Value), DpX X.K H v p → RelV v u → ∃ as, Reads s.heap u p.to as ∧ sysModules ∉ as
  | .none, _, _, h, r => by cases h; cases r; exact ⟨_, Reads.none, by simp⟩
  | .bool b, _, _, h, r => by cases h; cases r; exact ⟨_, Reads.bool b, by simp⟩
  | .int i, _, _, h, r => by cases h; obtain ⟨t, rfl⟩ := r; exact ⟨_, Reads.int i t, by simp⟩
  | .str x, _, _, h, r => by cases h; obtain ⟨t, rfl⟩ := r; exact ⟨_, Reads.str _ t, by simp⟩
  | .list ps, _, _, h, r => by
    cases h with
    | lst hs ha =>
      rename_i a xs
      cases r
      obtain ⟨its, rv, ⟨o, n, ho, hc, _, hd⟩, _⟩ := I.list hs
      obtain ⟨as, hr, hx⟩ := DpX.readsAll hsy I ps _ its ha rv
      refine ⟨_, Reads.list ho hc hd hr, fun hm => ?_⟩
      rcases List.mem_cons.mp hm with e | e
      · obtain ⟨o1, z1, z2⟩ := hsy
        rw [← e, I.kIn _ _ z1] at ho
        have e3 : o1 = o := by injection ho
        rw [← e3, z2] at hc
        injection hc with hc
        exact absurd hc (by decide)
      · exact hx e
  | .tuple ps, _, _, h, r => by
    cases h with
    | tup hs ha =>
      cases r
      obtain ⟨its, rv, ⟨o, ho, hc, n, hd⟩, _⟩ := I.tuple hs
      obtain ⟨as, hr, hx⟩ := DpX.readsAll hsy I ps _ its ha rv
      exact ⟨_, Reads.tuple ho hc hd hr, hx⟩
  | .dict ps, _, _, h, r => by
    cases h with
    | dic e ha =>
      rename_i a kvs
      cases r
      obtain ⟨_, hd, vs, rel, dd⟩ := dk_of I.hok e
      obtain ⟨as, hr, hx⟩ := DpX.readsK hsy I ps _ vs ha rel
      refine ⟨_, PyProof.V.reads_dictOf (rdKey (P := X.prog) (w := X.w)) dd hr, fun hm => ?_⟩
      rcases List.mem_cons.mp hm with e | e
      · rw [← e] at hd
        simp at hd
      · exact hx e
theorem DpX.readsAll (hsy : SysD X.K) (I : Inv X pins σ H s) : ∀ (ps : List PX) (vs : List V) (us : List Value), DpXs X.K H vs ps → Vals vs us → ∃ as, ReadsAll s.heap us (PX.tos ps) as ∧ sysModules ∉ as
  | [], _, _, h, r => by cases h; cases r; exact ⟨_, ReadsAll.nil, by simp⟩
  | p :: ps, _, _, h, r => by
    cases h with
    | cons h1 h2 =>
      cases r with
      | cons r1 r2 =>
        obtain ⟨as, q1, x1⟩ := DpX.reads hsy I p _ _ h1 r1
        obtain ⟨bs, q2, x2⟩ := DpX.readsAll hsy I ps _ _ h2 r2
        exact ⟨_, ReadsAll.cons q1 q2, fun hm => (List.mem_append.mp hm).elim x1 x2⟩
theorem DpX.readsK (hsy : SysD X.K) (I : Inv X pins σ H s) : ∀ (ps : List (KY × PX)) (vs : List (Key × V)) (us : List (Key × Value)), DpXk X.K H vs ps → KV vs us → ∃ as, PyProof.V.PairsRead s.heap kyD us (PX.tok ps) as ∧ sysModules ∉ as
  | [], _, _, h, r => by cases h; cases r; exact ⟨_, .nil, by simp⟩
  | (k, p) :: ps, _, _, h, r => by
    cases h with
    | cons hk h1 h2 =>
      cases r with
      | @cons _ b _ _ r1 r2 =>
        obtain ⟨b1, b2⟩ := b
        obtain ⟨e1, e2⟩ := r1
        cases (show kyK k = b1 from e1)
        obtain ⟨as, q1, x1⟩ := DpX.reads hsy I p _ _ h1 e2
        obtain ⟨bs, q2, x2⟩ := DpX.readsK hsy I ps _ _ h2 r2
        refine ⟨as ++ bs, ?_, fun hm => (List.mem_append.mp hm).elim x1 x2⟩
        have := PyProof.V.PairsRead.cons (k := kyK k) q1 q2
        rw [kyD_ks] at this
        exact this
end
end
section
variable {K : PySem.W.Frag} {H : Hp}
theorem okS_ks : ∀ k : KY, okKY k → okS (PX.ks k).shown
  | .i n, _ => okS_of _
  | .s x, h => by
    simp only [PX.ks, PyData.shown]
    exact okS_repr fun c hc => h c (by simpa using hc)
mutual
theorem okS_shown : ∀ (p : PX) (v : V), DpX K H v p → okS p.to.shown
  | .none, _, _ => okS_of _
  | .bool b, _, _ => by cases b <;> exact okS_of _
  | .int i, _, _ => okS_of _
  | .str x, _, h => by
    cases h with
    | str _ ok =>
      simp only [PX.to, PyData.shown]
      exact okS_repr fun c hc => ok c (by simpa using hc)
  | .list xs, _, h => by
    cases h with
    | lst _ hs =>
      simp only [PX.to, PyData.shown]
      exact (okS_from _ 0 _ (okS_shownAll xs _ hs) (okS_of _)).app (okS_of _)
  | .tuple xs, _, h => by
    cases h with
    | tup _ hs =>
      simp only [PX.to, PyData.shown]
      exact ((okS_of _).app (okS_join _ (okS_of _) _ (okS_shownAll xs _ hs))).app (okS_of _)
  | .dict kvs, _, h => by
    cases h with
    | dic _ hs =>
      simp only [PX.to, PyData.shown]
      exact ((okS_of _).app (okS_join _ (okS_of _) _ (okS_shownK kvs _ hs))).app (okS_of _)
theorem okS_shownAll : ∀ (ps : List PX) (vs : List V), DpXs K H vs ps → ∀ t ∈ PyData.shownAll (PX.tos ps), okS t
  | [], _, _, t, ht => by simp only [PX.tos, PyData.shownAll] at ht; cases ht
  | p :: ps, _, h, t, ht => by
    cases h with
    | cons h1 h2 =>
      simp only [PX.tos, PyData.shownAll] at ht
      rcases List.mem_cons.mp ht with e | e
      · subst e; exact okS_shown p _ h1
      · exact okS_shownAll ps _ h2 t e
theorem okS_shownK : ∀ (ps : List (KY × PX)) (vs : List (Key × V)), DpXk K H vs ps → ∀ t ∈ PyData.shownKv (PX.tok ps), okS t
  | [], _, _, t, ht => by simp only [PX.tok, PyData.shownKv] at ht; cases ht
  | (k, p) :: ps, _, h, t, ht => by
    cases h with
    | cons hk h1 h2 =>
      simp only [PX.tok, PyData.shownKv] at ht
      rcases List.mem_cons.mp ht with e | e
      · subst e; exact ((okS_ks k hk).app (okS_of _)).app (okS_shown p _ h1)
      · exact okS_shownK ps _ h2 t e
end
end
/-! how long -/
theorem wt_int (i : Int) : (PyData.int i).weight = PX.wt (.int i) := by
  simp only [PX.wt, PyData.weight]
  by_cases h : i = 0
  · subst h; rfl
  · have : (i == 0) = false := beq_eq_false_iff_ne.mpr h
    rw [this, if_neg h]; rfl
mutual
theorem wt_to : ∀ p : PX, p.to.weight = p.wt
  | .none => by simp [PX.to, PX.wt, PyData.weight]
  | .bool b => by simp [PX.to, PX.wt, PyData.weight]
  | .int i => by simp only [PX.to]; exact wt_int i
  | .str s => by simp [PX.to, PX.wt, PyData.weight]
  | .list xs => by simp only [PX.to, PX.wt, PyData.weight, wts_to xs]
  | .tuple xs => by simp only [PX.to, PX.wt, PyData.weight, wts_to xs]
  | .dict kvs => by simp only [PX.to, PX.wt, PyData.weight, wtk_to kvs]
theorem wts_to : ∀ ps : List PX, PyData.weightAll (PX.tos ps) = PX.wts ps
  | [] => by simp [PX.tos, PX.wts, PyData.weightAll]
  | p :: ps => by simp only [PX.tos, PX.wts, PyData.weightAll, wt_to p, wts_to ps]
theorem wtk_to : ∀ ps : List (KY × PX), PyData.weightKv (PX.tok ps) = PX.wtk ps
  | [] => by simp [PX.tok, PX.wtk, PyData.weightKv]
  | (.i n, p) :: ps => by simp only [PX.tok, PX.wtk, PyData.weightKv, PX.ks, wt_int, wt_to p, wtk_to ps]
  | (.s x, p) :: ps => by
    simp only [PX.tok, PX.wtk, PyData.weightKv, PX.ks, wt_to p, wtk_to ps, PyData.weight]
    simp
end
/-- so many figures -/
structure Figs (B k : Nat) : Prop where
  pos : 0 < k
  le : B = 10 ^ k
  two : B ≤ 2 ^ 1920
theorem Figs.int {B k : Nat} (F : Figs B k) {i : Int} (h : i.natAbs < B) : (PyData.int i).showable = true ∧ (PyData.int i).leavesShort (k + 1) = true := by
  simp only [PyData.showable, PyData.leavesShort, decide_eq_true_eq]
  refine ⟨?_, ?_⟩
  · by_cases h0 : i.natAbs = 0
    · rw [h0]; decide
    · exact (Nat.log2_lt h0).mpr (Nat.lt_of_lt_of_le h F.two)
  · show (Str.ofString (toString i)).length ≤ k + 1
    rw [PySem.ofString_length]
    exact int_text_length_le10 F.pos (F.le ▸ h)
theorem str_leaf {B : Nat} {x : Txt} (ok : okT x) : (PyData.str (toStr x)).leavesShort B = true := by
  simp only [PyData.leavesShort, List.all_eq_true, decide_eq_true_eq]
  intro c hc
  exact Nat.lt_trans (ok c (by simpa using hc)) (by decide)
section
variable {K : PySem.W.Frag} {H : Hp} {B k : Nat}
mutual
theorem short_to (F : Figs B k) : ∀ (p : PX) (v : V), DpX K H v p → p.upto B = true → p.to.showable = true ∧ p.to.leavesShort (k + 1) = true
  | .none, _, _, _ => by simp [PX.to, PyData.showable, PyData.leavesShort]
  | .bool b, _, _, _ => by simp [PX.to, PyData.showable, PyData.leavesShort]
  | .int i, _, _, h => by
    simp only [PX.upto, decide_eq_true_eq] at h
    simp only [PX.to]
    exact F.int h
  | .str s, _, d, _ => by
    cases d with
    | str _ ok => simp only [PX.to]; exact ⟨by simp [PyData.showable], str_leaf ok⟩
  | .list xs, _, d, h => by
    cases d with
    | lst _ hs =>
      simp only [PX.to, PyData.showable, PyData.leavesShort]
      exact shorts_to F xs _ hs (by simpa only [PX.upto] using h)
  | .tuple xs, _, d, h => by
    cases d with
    | tup _ hs =>
      simp only [PX.to, PyData.showable, PyData.leavesShort]
      exact shorts_to F xs _ hs (by simpa only [PX.upto] using h)
  | .dict kvs, _, d, h => by
    cases d with
    | dic _ hs =>
      simp only [PX.to, PyData.showable, PyData.leavesShort]
      exact shortk_to F kvs _ hs (by simpa only [PX.upto] using h)
theorem shorts_to (F : Figs B k) : ∀ (ps : List PX) (vs : List V), DpXs K H vs ps → PX.uptos B ps = true → PyData.showableAll (PX.tos ps) = true ∧ PyData.leavesShortAll (k + 1) (PX.tos ps) = true
  | [], _, _, _ => by simp [PX.tos, PyData.showableAll, PyData.leavesShortAll]
  | p :: ps, _, d, h => by
    cases d with
    | cons d1 d2 =>
      simp only [PX.uptos, Bool.and_eq_true] at h
      have a := short_to F p _ d1 h.1
      have b := shorts_to F ps _ d2 h.2
      simp only [PX.tos, PyData.showableAll, PyData.leavesShortAll, a.1, a.2, b.1, b.2, Bool.and_self, and_self]
theorem shortk_to (F : Figs B k) : ∀ (ps : List (KY × PX)) (vs : List (Key × V)), DpXk K H vs ps → PX.uptok B ps = true → PyData.showableKv (PX.tok ps) = true ∧ PyData.leavesShortKv (k + 1) (PX.tok ps) = true
  | [], _, _, _ => by simp [PX.tok, PyData.showableKv, PyData.leavesShortKv]
  | (ky, p) :: ps, _, d, h => by
    cases d with
    | cons hk d1 d2 =>
      simp only [PX.uptok, Bool.and_eq_true] at h
      have a := short_to F p _ d1 h.1.2
      have b := shortk_to F ps _ d2 h.2
      have c : (PX.ks ky).showable = true ∧ (PX.ks ky).leavesShort (k + 1) = true := by
        cases ky with
        | i n => exact F.int (of_decide_eq_true h.1.1)
        | s x => exact ⟨by simp [PX.ks, PyData.showable], str_leaf hk⟩
      simp only [PX.tok, PyData.showableKv, PyData.leavesShortKv, a.1, a.2, b.1, b.2, c.1, c.2, Bool.and_self, and_self]
end
theorem fits_to {p : PX} {v : V} (d : DpX K H v p) (hf : p.fits = true) : p.to.showable = true ∧ p.to.shown.length ≤ sizeLine := by
  unfold PX.fits at hf
  simp only [Bool.or_eq_true, Bool.and_eq_true, decide_eq_true_eq] at hf
  rcases hf with ⟨a, b⟩ | ⟨a, b⟩
  · obtain ⟨x, y⟩ := short_to (k := 10) ⟨by decide, rfl, by decide +kernel⟩ p v d a
    refine ⟨x, ?_⟩
    have := PyData.shown_le 11 (by decide) p.to y
    rw [wt_to] at this
    rw [size_lim]
    show _ ≤ 16777216
    omega
  · obtain ⟨x, y⟩ := short_to (k := 500) ⟨by decide, rfl, by decide +kernel⟩ p v d a
    refine ⟨x, ?_⟩
    have := PyData.shown_le 501 (by decide) p.to y
    rw [wt_to] at this
    rw [size_lim]
    show _ ≤ 16777216
    omega
end
/-! what is read -/
theorem depth_ks (k : KY) : (PX.ks k).depth = 0 := by cases k <;> rfl
theorem depth_zip : ∀ (ks : List KY) (ps : List PX), PyData.depthKv (PX.tok (ks.zip ps)) ≤ PyData.depthAll (PX.tos ps)
  | [], ps => by simp [PX.tok, PyData.depthKv]
  | k :: ks, [] => by simp [PX.tok, PyData.depthKv]
  | k :: ks, p :: ps => by
    have := depth_zip ks ps
    simp only [List.zip_cons_cons, PX.tok, PX.tos, PyData.depthKv, PyData.depthAll, depth_ks]
    omega
section
variable {W : Wd} {α : List Addr} {H : Hp} {h : IR.Heap}
theorem zip_reads {K : PySem.W.Frag} : ∀ (ks : List KY) (vs : List V) (ps : List PX), (∀ k ∈ ks, okKY k) → DpXs K H vs ps → DpXk K H ((ks.map kyK).zip vs) (ks.zip ps)
  | [], _, _, _, _ => by simp; exact .nil
  | k :: ks, _, [], _, d => by cases d; simp; exact .nil
  | k :: ks, _, p :: ps, ok, d => by
    cases d with
    | cons d1 d2 => exact .cons (ok k List.mem_cons_self) d1 (zip_reads ks _ ps (fun z hz => ok z (List.mem_cons_of_mem _ hz)) d2)
theorem mapO_readsX {n : Nat} (ih : ∀ d v p, Rep W.K α H d v → rdX h n d = some p → DpX W.K H v p ∧ p.to.depth ≤ n) : ∀ {ds : List D} {vs : List V} {ps : List PX}, Reps W.K α H ds vs → mapO (rdX h n) ds = some ps → DpXs W.K H vs ps ∧ PyData.depthAll (PX.tos ps) ≤ n
  | [], vs, ps, r, e => by
    simp only [Reps] at r; subst r
    simp only [mapO] at e; cases e
    exact ⟨.nil, by simp [PX.tos, PyData.depthAll]⟩
  | d :: ds, vs, ps, r, e => by
    simp only [Reps] at r
    obtain ⟨v, r', rfl, q, t⟩ := r
    simp only [mapO] at e
    split at e
    · rename_i b bs e1 e2
      cases e
      obtain ⟨x1, x2⟩ := ih d v b q e1
      obtain ⟨y1, y2⟩ := mapO_readsX ih t e2
      refine ⟨.cons x1 y1, ?_⟩
      simp only [PX.tos, PyData.depthAll]
      omega
    · cases e
theorem rdX_reads (hc : HCorr W α h H) : ∀ (n : Nat) (d : D) (v : V) (p : PX), Rep W.K α H d v → rdX h n d = some p → DpX W.K H v p ∧ p.to.depth ≤ n
  | 0, d, v, p, r, e => by cases e
  | n + 1, d, v, p, r, e => by
    have ih := rdX_reads hc n
    cases d with
    | non => rw [of_non r]; cases e; exact ⟨.non, by simp [PX.to, PyData.depth]⟩
    | bl b => rw [of_bl r]; cases e; exact ⟨.bl b, by simp [PX.to, PyData.depth]⟩
    | int i => rw [of_int r]; cases e; exact ⟨.int i, by simp [PX.to, PyData.depth]⟩
    | str s => rw [of_str r]; cases e; exact ⟨.str _ (ok_str r), by simp [PX.to, PyData.depth]⟩
    | tup ds =>
      obtain ⟨a, vs, rfl, ht, rr⟩ := of_tup r
      simp only [rdX] at e
      cases e2 : mapO (rdX h n) ds with
      | none => rw [e2] at e; cases e
      | some ps =>
        rw [e2] at e; cases e
        obtain ⟨x1, x2⟩ := mapO_readsX ih rr e2
        exact ⟨.tup ht x1, by simp only [PX.to, PyData.depth]; omega⟩
    | frz ds =>
      obtain ⟨a, vs, rfl, ht, rr⟩ := of_frz r
      simp only [rdX] at e
      cases e2 : mapO (rdX h n) ds with
      | none => rw [e2] at e; cases e
      | some ps =>
        rw [e2] at e; cases e
        obtain ⟨x1, x2⟩ := mapO_readsX ih rr e2
        exact ⟨.lst ht.sql x1, by simp only [PX.to, PyData.depth]; omega⟩
    | ref k =>
      simp only [rdX] at e
      split at e
      · rename_i ds e1
        obtain ⟨a, vs, _, rfl, hp, rr⟩ := lst_at hc r e1
        cases e2 : mapO (rdX h n) ds with
        | none => rw [e2] at e; cases e
        | some ps =>
          rw [e2] at e; cases e
          obtain ⟨x1, x2⟩ := mapO_readsX ih rr e2
          exact ⟨.lst (SqL.of hp) x1, by simp only [PX.to, PyData.depth]; omega⟩
      · rename_i kvs e1
        obtain ⟨a, ea, rfl⟩ := of_ref r
        obtain ⟨ok, vs, hp, rr⟩ := hc.ob _ _ a e1 ea
        cases e2 : mapO (rdX h n) (kvs.map (·.2)) with
        | none => rw [e2] at e; cases e
        | some ps =>
          rw [e2] at e; cases e
          obtain ⟨x1, x2⟩ := mapO_readsX ih rr e2
          refine ⟨.dic hp ?_, ?_⟩
          · have := zip_reads (K := W.K) (kvs.map (·.1)) vs ps (fun k hk => by obtain ⟨q, hq, rfl⟩ := List.mem_map.mp hk; exact ok q hq) x1
            rw [List.map_map] at this
            exact this
          · simp only [PX.to, PyData.depth]
            have := depth_zip (kvs.map (·.1)) ps
            omega
      · cases e
end
/-- how the machine writes data out -/
def shownP (p : PX) : Txt := p.to.shown.cps.toList
def rRepr (K : PySem.W.Frag) : List V → Hp → VK → Prop := fun xs H Q => ∃ x p, xs = [x] ∧ DpX K H x p ∧ p.to.depth ≤ 64 ∧ p.to.showable = true ∧ p.to.shown.length ≤ sizeLine ∧ Q (.str p.to.shown) H
theorem call_reprD {X : Cx} (hsy : SysD X.K) (hn : NoG X.A) (hu : X.A.units + 65 < cLine) : CallR X (.builtin "repr") (rRepr X.K) := by
  intro pins s σ H xs us Q I r h
  obtain ⟨x, d, rfl, hd, hz, hs, hz2, q⟩ := h
  obtain ⟨u, rfl, ru⟩ := vals1 r
  have goRef : ∀ a, x = .ref a → wpAny (model X.prog X.w) X.A (call (.builtin "repr") [u]) (fun u s' => ∃ v H', Inv X pins σ H' s' ∧ RelV v u ∧ Q v H') X.xe s := by
    rintro a rfl
    cases (show u = Value.ref a from ru)
    obtain ⟨as, rd, nm⟩ := DpX.reads hsy I d (.ref a) (.ref a) hd rfl
    exact repr_of_reads' (h₀ := s.heap) rd hs (fun _ => nm) hn (by omega) (fun _ _ e => e) (fun h' u tk hk => ⟨.str d.to.shown, H, I.kept (t' := tk) hk, ⟨_, rfl⟩, q⟩) hz2
  cases hd with
  | non =>
    cases (show u = Value.none from ru)
    exact PySem.P.repr_of_none ⟨.str _, H, I.tok _, ⟨_, rfl⟩, q⟩
  | bl b =>
    cases (show u = Value.bool b from ru)
    exact PySem.P.repr_of_bool ⟨.str _, H, I.tok _, ⟨_, rfl⟩, q⟩
  | int i =>
    obtain ⟨t, rfl⟩ := (show ∃ t, u = Value.int i t from ru)
    exact PySem.P.repr_of_int (by simpa only [PX.to, PyData.showable, decide_eq_true_eq] using hs) ⟨.str _, H, I.tok _, ⟨_, rfl⟩, q⟩
  | str x ok =>
    obtain ⟨t, rfl⟩ := (show ∃ t, u = Value.str _ t from ru)
    exact PySem.P.repr_of_str ⟨.str _, H, I.tok _, ⟨_, rfl⟩, q⟩ (by simpa only [PX.to, PyData.shown] using hz2)
  | lst _ _ => exact goRef _ rfl
  | tup _ _ => exact goRef _ rfl
  | dic _ _ => exact goRef _ rfl
section
variable {W : Wd}
theorem s_repr {κ : Kap} (hκ : κ.shown = shownP) : OLS W (b_repr κ) (rRepr W.K) := by
  intro E α H h xs vs Q hc rx k
  unfold b_repr at k
  split at k
  · rename_i x
    obtain ⟨v, rfl, rv⟩ := rep1 rx
    obtain ⟨p, e, k⟩ := Run.lift k
    by_cases hf : p.fits = true
    · rw [if_pos hf] at k
      obtain ⟨x1, x2⟩ := rdX_reads hc DEEP x _ p rv e
      obtain ⟨f1, f2⟩ := fits_to x1 hf
      refine ⟨v, p, rfl, x1, by simp only [DEEP] at x2; omega, f1, f2, ?_⟩
      rw [hκ] at k
      have e2 : p.to.shown = toStr (shownP p) := rfl
      rw [e2]
      exact Run.done k hc (r_str (okS_shown _ _ x1))
    · rw [if_neg hf] at k; exact k.elim
  · exact k.elim
end
end IR
end

section
set_option Elab.async false
set_option linter.all false
set_option autoImplicit false
set_option maxRecDepth 100000
set_option maxHeartbeats 4000000
/-! truth, isinstance, methods of lists, stores, what is walked -/
namespace IR
open PySem PySem.Spec PyProof.Rows L2
section
variable {W : Wd} {Wx : WX} {X : Cx} {a b c e o : Expr} {fa fb fc fo : SE} {pos p2 apos : Pos} {α : List Addr} {H : Hp} {h : IR.Heap} {E : XK} {Q : VK} {σ : L2.St} {env : IR.Env} {De : Ends}
theorem isE {α : Type} (l : List α) : (!l.isEmpty) = ((l.length : Int) != 0) := by cases l <;> simp <;> omega
theorem tru_of (hc : HCorr W α h H) {x : D} {v : V} {k : Bool} (rx : Rep W.K α H x v) (e : truth h x = some k) : TruV W.K v H k := by
  unfold truth at e
  split at e
  · cases e; rw [of_non rx]; exact rfl
  · cases e; rw [of_bl rx]; exact rfl
  · cases e; rw [of_int rx]; exact rfl
  · split at e
    · rename_i hl
      cases e
      rw [of_str rx]
      exact ⟨by rw [str_len, size_lim]; exact hl, by rw [str_len]; exact isE _⟩
    · cases e
  · cases e
    obtain ⟨p, vs, rfl, hp, r⟩ := of_tup rx
    exact .inr (.inl ⟨vs, hp, by rw [isE, isE, r.length]⟩)
  · cases e
    obtain ⟨p, vs, rfl, hp, r⟩ := of_frz rx
    exact .inl ⟨vs, hp.sql, by rw [isE, isE, r.length]⟩
  · split at e
    · rename_i e1
      cases e
      obtain ⟨p, us, _, rfl, hp, r⟩ := lst_at hc rx e1
      exact .inl ⟨us, SqL.of hp, by rw [isE, isE, r.length]⟩
    · cases e
theorem qt_e (hK : W.K = X.K) (ha : PE X a (semE W Wx fa)) (he : ∀ whole, isTrue a X.env whole = (do let v ← whole; standAt a.pos; holding [v] (truthy v)) := by intro _; rfl) : PT X a (semT W Wx (t_e fa)) :=
  (pt_truth ha he).imp fun σ H Q q => bindG (g := fun _ x h1 => liftO (truth h1 x) h1) q fun α env x h1 v H1 c rx k => by
    obtain ⟨b, e, k⟩ := Run.lift1 k
    exact ⟨b, hK ▸ tru_of c.hc rx e, Run.done k c.hc rfl⟩
/-! isinstance -/
structure IsaOk (W : Wd) (sub : Nat → Nat → Bool) (t : Ty) (u : Value) : Prop where
  non : PySem.W.kitOne W.K (.type "NoneType") u = some false
  bl : PySem.W.kitOne W.K (.type "bool") u = some t.bl
  int : PySem.W.kitOne W.K (.type "int") u = some t.int
  str : PySem.W.kitOne W.K (.type "str") u = some t.str
  tup : PySem.W.kitOne W.K (.type "tuple") u = some t.tup
  lst : PySem.W.kitOne W.K (.type "list") u = some t.lst
  dic : PySem.W.kitOne W.K (.type "dict") u = some t.dic
  own : ∀ c, PySem.W.kitOne W.K (.ref (W.cl c)) u = some (t.is sub c)
  err : ∀ c, PySem.W.kitOne W.K (.ref (W.ec c)) u = some (t.ise sub c)
theorem isa_of {sub : Nat → Nat → Bool} {t : Ty} {u : Value} (hcl : ∀ c, ClsOk W c) (hec : ∀ c, LookC W.K (W.ec c)) (I : IsaOk W sub t u) (hc : HCorr W α h H) {x : D} {v : V} {k : Bool} (rx : Rep W.K α H x v) (e : isTy sub h x t = some k) : (∃ ty, TyX W.K H v ty ∧ PySem.W.kitOne W.K ty u = some k) ∨ ∃ a C d fs, v = .ref a ∧ H a = some (exv a C d) ∧ H d = some (.xd fs) ∧ ExcC W.K C ∧ PySem.W.kitOne W.K (.ref C) u = some k := by
  unfold isTy at e
  split at e
  · cases e; rw [of_non rx]; exact .inl ⟨_, .base .non, I.non⟩
  · cases e; rw [of_bl rx]; exact .inl ⟨_, .base (.bl _), I.bl⟩
  · cases e; rw [of_int rx]; exact .inl ⟨_, .base (.int _), I.int⟩
  · cases e; rw [of_str rx]; exact .inl ⟨_, .base (.str _), I.str⟩
  · cases e
    obtain ⟨p, vs, rfl, hp, r⟩ := of_tup rx
    rcases hp with (hp | ⟨o, hp⟩) | ⟨o, its, n, hp, hp2, _⟩
    · exact .inl ⟨_, .base (.tup hp), I.tup⟩
    · exact .inl ⟨_, .fTuple hp, I.tup⟩
    · exact .inl ⟨_, .kTuple hp hp2, I.tup⟩
  · cases e
    obtain ⟨p, vs, rfl, hp, r⟩ := of_frz rx
    rcases hp with ⟨o, hp⟩ | hp
    · exact .inl ⟨_, .base (.frz hp), I.lst⟩
    · rcases hp (fun _ => none) with (hp | ⟨o, hp⟩) | ⟨o, its, n, hp, hp2, _⟩
      · cases hp
      · cases hp
      · exact .inl ⟨_, .kList hp hp2, I.lst⟩
  · obtain ⟨a, ea, rfl⟩ := of_ref rx
    split at e
    · rename_i e1
      cases e
      obtain ⟨vs, hp, r⟩ := hc.ob _ _ a e1 ea
      exact .inl ⟨_, .base (.lst hp), I.lst⟩
    · rename_i e1
      cases e
      obtain ⟨_, vs, hp, r⟩ := hc.ob _ _ a e1 ea
      exact .inl ⟨_, .base (.dK hp), I.dic⟩
    · rename_i cc fs e1
      cases e
      obtain ⟨dx, vs, hp, r⟩ := hc.ob _ _ a e1 ea
      have C := hcl cc
      exact .inl ⟨_, .base (.ins hp C.cl C.cc C.cg C.ct C.co), I.own cc⟩
    · rename_i cc fs e1
      cases e
      obtain ⟨dx, y, hp, hd, r⟩ := hc.ob _ _ a e1 ea
      exact .inr ⟨a, _, dx, _, rfl, hp, hd, (hec cc).xc, I.err cc⟩
    · cases e
theorem q_isa {p : Pos} {sub : Nat → Nat → Bool} {t : Ty} {u : Value} {cv : V} {tx : Expr} (hK : W.K = X.K) (hcl : ∀ c, ClsOk W c) (hec : ∀ c, LookC W.K (W.ec c)) (I : IsaOk W sub t u) (cu : ClsV cv u) (hg : Gl X "isinstance") (hm : X.mg "isinstance" = none)
    (ha : PE X a (semE W Wx fa)) (ht : PE X tx (tC cv)) (he : starEach [a, tx] X.env = (false, eval a X.env) :: starEach [tx] X.env := by rfl) (he2 : starEach [tx] X.env = (false, eval tx X.env) :: starEach [] X.env := by rfl) (hpl : (backTo pos (starEach [tx] X.env)).any (·.1) = false := by rfl) :
    PE X (.Call (.Name "isinstance" p) [a, tx] [] pos) (semE W Wx (e_1 (o_isa sub t) fa)) :=
  (pe_callB call_isB hg hm (by rfl) (pa_cons ha (pa_cons ht pa_nil he2) he) (by decide) (by decide) he hpl).imp fun σ H Q q =>
    bindG (g := fun _ x h1 => o_isa sub t x h1) q fun α env x h1 v H1 c rx k => by
      obtain ⟨b, e, k⟩ := Run.lift k
      rcases isa_of hcl hec I c.hc rx e with ⟨ty, x1, x2⟩ | ⟨a, C, d, fs, x1, x2, x3, x4, x5⟩
      · exact .inl ⟨v, cv, ty, u, b, rfl, cu, hK ▸ x1, hK ▸ x2, Run.done k c.hc r_bl⟩
      · exact .inr ⟨a, C, d, fs, cv, u, b, by rw [x1], x2, x3, hK ▸ x4, cu, hK ▸ x5, Run.done k c.hc r_bl⟩
/-! methods of lists -/
theorem write_lst {k : Nat} {p : Addr} {ds ds' : List D} {vs' : List V} (hc : HCorr W α h H) (e : h[k]? = some (.lst ds)) (ea : α[k]? = some p) (r : Reps W.K α H ds' vs') :
    Le W.K α H α (upd H p (.lst vs')) ∧ HCorr W α (h.set k (.lst ds')) (upd H p (.lst vs')) :=
  write_obj (lo' := .lst ds') hc e ea fun l e => ⟨_, e, r.mono l⟩
theorem lst_ty (hc : HCorr W α h H) {x : D} {v : V} (rx : Rep W.K α H x v) (e : isLst h x = true) : tyV W.K "list" v H ∧ True := by
  unfold isLst at e
  split at e
  · split at e
    · rename_i e1
      obtain ⟨p, us, _, rfl, hp, r⟩ := lst_at hc rx e1
      exact ⟨.inl ⟨rfl, _, SqL.of hp⟩, trivial⟩
    · cases e
  · cases e
theorem q_append (hK : W.K = X.K) (ho : PE X o (semE W Wx fo)) (ha : PE X a (semE W Wx fa)) (hbase : attributeBase o "append" X.env (eval o X.env) = eval o X.env := by rfl)
    (hfew : ((backTo pos (starEach [a] X.env)).all (fun x => !x.1) && (backToKw pos (keywordEach [] X.env)).all (fun x => x.1.isSome)
      && decide (([a] : List Expr).length + ([] : List Keyword).length + (if ([] : List Keyword).isEmpty then 0 else 1) < 30)) = true := by rfl)
    (hline : (apos.endLine == pos.line) = true := by rfl) (hs : starEach [a] X.env = (false, eval a X.env) :: starEach [] X.env := by rfl) (hplain : (backTo pos (starEach [] X.env)).any (·.1) = false := by rfl) :
    PE X (.Call (.Attribute o "append" apos) [a] [] pos) (semE W Wx (e_lm m_append fo fa)) :=
  (pe_bm PySem.F.plainAttrs_list PySem.F.slot_list_append PySem.F.type_list_append mt_append ho (pa_cons ha pa_nil hs) hbase hfew hline hs hplain).imp fun σ H Q q =>
    bindG (g := fun env x h1 => if isLst h1 x then (fa env h1).bind fun y h2 => m_append x y h2 else .bad) q fun α env x h1 v H1 c rx k => by
      obtain ⟨hl, k⟩ := Run.ite k
      obtain ⟨ty, rfl'⟩ := lst_ty c.hc rx hl
      refine ⟨hK ▸ ty, bindR (g := fun y h2 => m_append x y h2) c k fun α2 y h2 w H2 le c2 ry k2 => ?_⟩
      have rx2 := rx.mono le
      unfold m_append at k2
      split at k2
      · split at k2
        · rename_i e1
          obtain ⟨hz, k2⟩ := Run.ite k2
          obtain ⟨p, us, ep, rfl, hp, r⟩ := lst_at c2.hc rx2 e1
          refine ⟨p, us, w, rfl, rfl, hp, by rw [← r.length, size_lim]; exact hz, ?_⟩
          obtain ⟨lw, hw⟩ := write_lst c2.hc e1 ep (r.append (Reps.one ry))
          exact k2 _ _ _ lw hw r_non
        · exact k2.elim
      · exact k2.elim
theorem q_insert (hK : W.K = X.K) (ho : PE X o (semE W Wx fo)) (ha : PE X a (semE W Wx fa)) (hb : PE X b (semE W Wx fb)) (hbase : attributeBase o "insert" X.env (eval o X.env) = eval o X.env := by rfl)
    (hfew : ((backTo pos (starEach [a, b] X.env)).all (fun x => !x.1) && (backToKw pos (keywordEach [] X.env)).all (fun x => x.1.isSome)
      && decide (([a, b] : List Expr).length + ([] : List Keyword).length + (if ([] : List Keyword).isEmpty then 0 else 1) < 30)) = true := by rfl)
    (hline : (apos.endLine == pos.line) = true := by rfl) (hs : starEach [a, b] X.env = (false, eval a X.env) :: starEach [b] X.env := by rfl) (hs2 : starEach [b] X.env = (false, eval b X.env) :: starEach [] X.env := by rfl) (hplain : (backTo pos (starEach [b] X.env)).any (·.1) = false := by rfl) :
    PE X (.Call (.Attribute o "insert" apos) [a, b] [] pos) (semE W Wx (e_lm3 m_insert fo fa fb)) :=
  (pe_bm PySem.F.plainAttrs_list PySem.F.slot_list_insert PySem.F.type_list_insert mt_insert ho (pa_cons ha (pa_cons hb pa_nil hs2) hs) hbase hfew hline hs hplain).imp fun σ H Q q =>
    bindG (g := fun env x h1 => if isLst h1 x then (fa env h1).bind fun y h2 => (fb env h2).bind fun z h3 => m_insert x y z h3 else .bad) q fun α env x h1 v H1 c rx k => by
      obtain ⟨hl, k⟩ := Run.ite k
      obtain ⟨ty, rfl'⟩ := lst_ty c.hc rx hl
      refine ⟨hK ▸ ty, bindR (g := fun y h2 => (fb env h2).bind fun z h3 => m_insert x y z h3) c k fun α2 y h2 w H2 le c2 ry k2 => bindR (g := fun z h3 => m_insert x y z h3) c2 k2 fun α3 z h3 u H3 le3 c3 rz k3 => ?_⟩
      have rx2 := (rx.mono le).mono le3
      have ry2 := ry.mono le3
      unfold m_insert at k3
      split at k3
      · split at k3
        · rename_i e1
          obtain ⟨⟨hz, h0, h1'⟩, k3⟩ := Run.ite k3
          obtain ⟨p, us, ep, rfl, hp, r⟩ := lst_at c3.hc rx2 e1
          refine ⟨p, us, _, u, rfl, by rw [of_int ry2], hp, by rw [← r.length, size_lim]; exact hz, h0, by simp only [LIM] at hz; omega, ?_⟩
          obtain ⟨lw, hw⟩ := write_lst c3.hc e1 ep (((r.take _).append (Reps.one rz)).append (r.drop _))
          have e2 : ∀ (ds : List D) n (z : D), insAt ds n z = ds.take n ++ [z] ++ ds.drop n := fun ds n z => by simp [insAt]
          rw [e2] at k3
          exact k3 _ _ _ lw hw r_non
        · exact k3.elim
      · exact k3.elim
/-- xs[i] = e -/
theorem q_put (hK : W.K = X.K) (he : PE X e (semE W Wx fa)) (ho : PE X o (semE W Wx fo)) (hb : PE X b (semE W Wx fb)) (hs : swapsWithSole [.Subscript o b p2] e pos.line X.env = pure false := by rfl) (hw : swappedStores [.Subscript o b p2] e X.env = pure none := by rfl)
    (h1 : (assignEach [.Subscript o b p2] X.env).map (·.2) = [assign (.Subscript o b p2) X.env] := by rfl)
    (hg : ∀ v, assign (.Subscript o b p2) X.env v = (do
      let ov ← holding [v] (eval o X.env)
      let iv ← holding [v, ov] (eval b X.env)
      standAt p2
      holding [v, ov, iv] (setItem ov iv v)
      release [v, ov, iv] []) := by intro _; rfl) : PS X (.Assign [.Subscript o b p2] e pos) (semS W Wx (s_put p_list fo fb fa)) :=
  (ps_asg he (pg_sub ho hb set_list hg) hs hw h1).imp fun De σ H q => toG (R := RV W) (g := fun env v h1 => (fo env h1).to env fun x h2 => (fb env h2).to env fun y h3 => (p_list x y v h3).to env fun _ h4 => .nx env h4) q fun α env d h1 v H1 c rd k =>
    toR (R := RV W) (g := fun x h2 => (fb env h2).to env fun y h3 => (p_list x y d h3).to env fun _ h4 => .nx env h4) c k fun α2 x h2 w H2 le c2 rx k2 =>
      toR (R := RV W) (g := fun y h3 => (p_list x y d h3).to env fun _ h4 => .nx env h4) c2 k2 fun α3 y h3 u H3 le3 c3 ry k3 => by
        have rx3 := rx.mono le3
        have rd3 := (rd.mono le).mono le3
        unfold p_list at k3
        split at k3
        · split at k3
          · rename_i e1
            split at k3
            · rename_i hz
              obtain ⟨p, us, ep, rfl, hp, r⟩ := lst_at c3.hc rx3 e1
              refine ⟨p, us, _, _, rfl, of_int ry, hp, by rw [← r.length]; unfold L2.ixN; rw [if_pos hz.1, if_pos hz.2], ?_⟩
              obtain ⟨lw, hw⟩ := write_lst c3.hc e1 ep (r.set _ rd3)
              exact k3 _ _ _ lw (c3.later lw hw)
            · exact k3.elim
          · exact k3.elim
        · exact k3.elim
end
end IR
end

section
set_option Elab.async false
set_option linter.all false
set_option autoImplicit false
set_option maxRecDepth 100000
set_option maxHeartbeats 4000000
/-! what is walked -/
namespace IR
open PySem PySem.Spec PyProof.Rows L2 RZ
section
variable {W : Wd} {Wx : WX} {X : Cx} {a b c e o tg : Expr} {fa fb fc fo : SE} {pos p2 apos p : Pos} {α : List Addr} {H : Hp} {h : IR.Heap} {E : XK} {Q : VK} {σ : L2.St} {env : IR.Env} {De : Ends}
theorem its_lst {k : Nat} {q : Addr} {ds : List D} (eq : α[k]? = some q) : ItS W α H ⟨ds, [(k, .lst ds)]⟩ (Itl W.K q) := by
  have get : ∀ {α' : List Addr} {h' : IR.Heap} {H' : Hp}, Le W.K α H α' H' → HCorr W α' h' H' → Src.ok ⟨ds, [(k, .lst ds)]⟩ h' = true → ∃ vs, H' q = some (.lst vs) ∧ Reps W.K α' H' ds vs := by
    intro α' h' H' le hc ok
    simp only [Src.ok, List.all_cons, List.all_nil, Bool.and_true, decide_eq_true_eq] at ok
    obtain ⟨g, rfl⟩ := le.pre
    exact hc.ob k _ q ok (by rw [List.getElem?_append_left (List.getElem?_eq_some_iff.mp eq).1]; exact eq)
  constructor
  · intro i α' h' H' d le hc ok hd
    obtain ⟨vs, hv, r⟩ := get le hc ok
    obtain ⟨v, hv2, rv⟩ := r.get hd
    refine ⟨⟨vs, v, SqL.of hv, hv2⟩, fun x H2 hx => ?_⟩
    obtain ⟨rfl, hx⟩ := hx
    have := hx vs (SqL.of hv)
    rw [hv2] at this
    cases this
    exact ⟨Le.refl, hc, rv⟩
  · intro i α' h' H' le hc ok hl
    obtain ⟨vs, hv, r⟩ := get le hc ok
    exact ⟨vs, SqL.of hv, by rw [← r.length]; exact hl⟩
theorem its_frz {q : Addr} {ds : List D} {vs : List V} (hp : SqF W.K H q vs) (r : Reps W.K α H ds vs) : ItS W α H ⟨ds, []⟩ (Itl W.K q) := by
  constructor
  · intro i α' h' H' d le hc ok hd
    obtain ⟨v, hv2, rv⟩ := (r.mono le).get hd
    have hq := (le.frz _ _ hp).sql
    refine ⟨⟨vs, v, hq, hv2⟩, fun x H2 hx => ?_⟩
    obtain ⟨rfl, hx⟩ := hx
    have := hx vs hq
    rw [hv2] at this
    cases this
    exact ⟨Le.refl, hc, rv⟩
  · intro i α' h' H' le hc ok hl
    exact ⟨vs, (le.frz _ _ hp).sql, by rw [← r.length]; exact hl⟩
theorem its_tup {q : Addr} {ds : List D} {vs : List V} (hp : SqT W.K H q vs) (r : Reps W.K α H ds vs) : ItS W α H ⟨ds, []⟩ (Itt W.K q) := by
  constructor
  · intro i α' h' H' d le hc ok hd
    obtain ⟨v, hv2, rv⟩ := (r.mono le).get hd
    have hq := le.tup _ _ hp
    refine ⟨⟨vs, v, hq, hv2⟩, fun x H2 hx => ?_⟩
    obtain ⟨rfl, hx⟩ := hx
    have := hx vs hq
    rw [hv2] at this
    cases this
    exact ⟨Le.refl, hc, rv⟩
  · intro i α' h' H' le hc ok hl
    exact ⟨vs, le.tup _ _ hp, by rw [← r.length]; exact hl⟩
theorem its_str {s : Txt} (os : okT s) : ItS W α H ⟨s.map fun c => .str [c], []⟩ (Its (toStr s)) := by
  constructor
  · intro i α' h' H' d le hc ok hd
    simp only [List.getElem?_map, Option.map_eq_some_iff] at hd
    obtain ⟨c, hc1, rfl⟩ := hd
    have hi := (List.getElem?_eq_some_iff.mp hc1).1
    refine ⟨by show i < (toStr s).cps.size; simpa using hi, fun x H2 hx => ?_⟩
    obtain ⟨rfl, c', hc2, rfl⟩ := hx
    have : c = c' := by
      have : s[i]? = some c' := by simpa using hc2
      rw [hc1] at this; cases this; rfl
    subst this
    exact ⟨Le.refl, hc, r_str (os.mem (List.mem_of_getElem? hc1))⟩
  · intro i α' h' H' le hc ok hl
    show (toStr s).cps.size ≤ i
    simpa using hl
theorem rng_get {lo : Int} {n : Nat} {c : Int} {i : Nat} {d : D} (e : (rng lo n c)[i]? = some d) : i < n ∧ d = .int (lo + (i : Nat) * c) := by
  unfold rng at e
  simp only [List.getElem?_map, Option.map_eq_some_iff] at e
  obtain ⟨k, hk, rfl⟩ := e
  have hi := (List.getElem?_eq_some_iff.mp hk).1
  simp only [List.length_range] at hi
  rw [List.getElem?_range hi] at hk
  cases hk
  exact ⟨hi, rfl⟩
theorem rng_len {lo : Int} {n : Nat} {c : Int} : (rng lo n c).length = n := by simp [rng]
theorem its_rng {lo : Int} {n : Nat} : ItS W α H ⟨rng lo n 1, []⟩ (Itr lo n) := by
  constructor
  · intro i α' h' H' d le hc ok hd
    obtain ⟨hi, rfl⟩ := rng_get hd
    refine ⟨hi, fun x H2 hx => ?_⟩
    obtain ⟨rfl, rfl⟩ := hx
    rw [Int.mul_one]
    exact ⟨Le.refl, hc, r_int⟩
  · intro i α' h' H' le hc ok hl
    show n ≤ i
    rw [rng_len] at hl; exact hl
theorem its_rngC {lo c : Int} {n : Nat} : ItS W α H ⟨rng lo n c, []⟩ (Itc lo c n) := by
  constructor
  · intro i α' h' H' d le hc ok hd
    obtain ⟨hi, rfl⟩ := rng_get hd
    refine ⟨hi, fun x H2 hx => ?_⟩
    obtain ⟨rfl, rfl⟩ := hx
    exact ⟨Le.refl, hc, r_int⟩
  · intro i α' h' H' le hc ok hl
    show n ≤ i
    rw [rng_len] at hl; exact hl
theorem zip_get : ∀ {s t : List D} {i : Nat} {d : D}, (zipD s t)[i]? = some d → ∃ x y, s[i]? = some x ∧ t[i]? = some y ∧ d = .tup [x, y]
  | [], t, i, d, e => by simp [zipD] at e
  | a :: s, [], i, d, e => by simp [zipD] at e
  | a :: s, b :: t, 0, d, e => by simp [zipD] at e; exact ⟨a, b, by simp, by simp, e.symm⟩
  | a :: s, b :: t, i + 1, d, e => by
    simp only [zipD, List.getElem?_cons_succ] at e ⊢
    exact zip_get e
theorem zip_len : ∀ {s t : List D} {i : Nat}, (zipD s t).length ≤ i → s.length ≤ i ∨ t.length ≤ i
  | [], t, i, e => .inl (by simp)
  | a :: s, [], i, e => .inr (by simp)
  | a :: s, b :: t, 0, e => by simp [zipD] at e
  | a :: s, b :: t, i + 1, e => by
    simp only [zipD, List.length_cons, Nat.add_le_add_iff_right] at e ⊢
    exact zip_len e
theorem its_zip {q1 q2 : Addr} {s t : List D} {vs us : List V} (h1 : SqT W.K H q1 vs) (r1 : Reps W.K α H s vs) (h2 : SqT W.K H q2 us) (r2 : Reps W.K α H t us) : ItS W α H ⟨zipD s t, []⟩ (ItzT W.K q1 q2) := by
  constructor
  · intro i α' h' H' d le hc ok hd
    obtain ⟨x, y, hx, hy, rfl⟩ := zip_get hd
    obtain ⟨v, hv, rv⟩ := (r1.mono le).get hx
    obtain ⟨u, hu, ru⟩ := (r2.mono le).get hy
    have g1 := le.tup _ _ h1
    have g2 := le.tup _ _ h2
    refine ⟨⟨vs, us, v, u, g1, g2, hv, hu⟩, fun z H2 hz => ?_⟩
    obtain ⟨T, x', y', rfl, hT, rfl, k1, k2⟩ := hz
    have e1 := k1 _ g1
    have e2 := k2 _ g2
    rw [hv] at e1; rw [hu] at e2
    cases e1; cases e2
    exact new_tup hT hc (by simp only [Reps]; exact ⟨_, _, rfl, rv, _, _, rfl, ru, rfl⟩)
  · intro i α' h' H' le hc ok hl
    refine ⟨vs, us, le.tup _ _ h1, le.tup _ _ h2, ?_⟩
    rw [← r1.length, ← r2.length]
    exact zip_len hl
/-! the rules -/
theorem qi_list (hK : W.K = X.K) (he : PE X e (semE W Wx fa)) : PI X tg e (semI W Wx (i_list fa)) :=
  (pi_list he).imp fun σ H R q => bindG (g := fun _ x h1 => match x with
    | .frz ds => Res.ok (Src.mk ds []) h1
    | .ref k => match h1[k]? with
      | some (.lst ds) => .ok ⟨ds, [(k, .lst ds)]⟩ h1
      | _ => .bad
    | _ => .bad) q fun α env x h1 v H1 c rx k => by
    cases x with
    | frz ds =>
      obtain ⟨p, vs, rfl, hp, r⟩ := of_frz rx
      exact ⟨p, rfl, ⟨vs, hK ▸ hp.sql⟩, Run.done k c.hc (hK ▸ its_frz hp r)⟩
    | ref i =>
      simp only at k
      split at k
      · rename_i e1
        obtain ⟨p, vs, ep, rfl, hp, r⟩ := lst_at c.hc rx e1
        exact ⟨p, rfl, ⟨vs, SqL.of hp⟩, Run.done k c.hc (hK ▸ its_lst ep)⟩
      · exact k.elim
    | _ => exact k.elim
theorem qi_tup (hK : W.K = X.K) (he : PE X e (semE W Wx fa)) : PI X tg e (semI W Wx (i_tup fa)) :=
  (pi_tup he).imp fun σ H R q => bindG (g := fun _ x h1 => match x with
    | .tup ds => Res.ok (Src.mk ds []) h1
    | _ => .bad) q fun α env x h1 v H1 c rx k => by
    cases x with
    | tup ds =>
      obtain ⟨p, vs, rfl, hp, r⟩ := of_tup rx
      exact ⟨p, rfl, ⟨vs, hK ▸ hp⟩, Run.done k c.hc (hK ▸ its_tup hp r)⟩
    | _ => exact k.elim
theorem qi_str (he : PE X e (semE W Wx fa)) : PI X tg e (semI W Wx (i_str fa)) :=
  (pi_str he).imp fun σ H R q => bindG (g := fun _ x h1 => match x with
    | .str s => Res.ok (Src.mk (s.map fun c => .str [c]) []) h1
    | _ => .bad) q fun α env x h1 v H1 c rx k => by
    cases x with
    | str s => exact ⟨toStr s, of_str rx, Run.done k c.hc (its_str (ok_str rx))⟩
    | _ => exact k.elim
theorem qi_rng1 (hg : Gl X "range") (hm : X.mg "range" = none) (ha : PE X a (semE W Wx fa)) (hs : starEach [a] X.env = [(false, eval a X.env)] := by rfl) (h1 : starEach [a] X.env = (false, eval a X.env) :: starEach [] X.env := by rfl) : PI X tg (.Call (.Name "range" p) [a] [] pos) (semI W Wx (i_rng1 fa)) :=
  (pi_range1 hg hm (pa_cons ha pa_nil h1) hs).imp fun σ H R q => bindG (g := fun _ x h1 => match x with
    | .int j => if -B62 ≤ j ∧ j < B62 then Res.ok (Src.mk (rng 0 j.toNat 1) []) h1 else .bad
    | _ => .bad) q fun α env x h1 v H1 c rx k => by
    cases x with
    | int j =>
      obtain ⟨hb, k⟩ := Run.ite k
      exact ⟨j, by rw [of_int rx], by simp only [B62] at hb; omega, by simp only [B62] at hb; omega, Run.done k c.hc its_rng⟩
    | _ => exact k.elim
theorem qi_rng2 (hg : Gl X "range") (hm : X.mg "range" = none) (ha : PE X a (semE W Wx fa)) (hb : PE X b (semE W Wx fb)) (hs : starEach [a, b] X.env = [(false, eval a X.env), (false, eval b X.env)] := by rfl) (hs2 : starEach [b] X.env = [(false, eval b X.env)] := by rfl)
    (h1 : starEach [a, b] X.env = (false, eval a X.env) :: starEach [b] X.env := by rfl) (h2 : starEach [b] X.env = (false, eval b X.env) :: starEach [] X.env := by rfl) : PI X tg (.Call (.Name "range" p) [a, b] [] pos) (semI W Wx (i_rng2 fa fb)) :=
  (pi_range2 hg hm (pa_cons ha (pa_cons hb pa_nil h2) h1) hs hs2).imp fun σ H R q => bindG (g := fun env x h1 => (fb env h1).bind fun y h2 => match x, y with
    | .int i, .int j => if -B62 ≤ i ∧ i < B62 ∧ -B62 ≤ j ∧ j < B62 then Res.ok (Src.mk (rng i (j - i).toNat 1) []) h2 else .bad
    | _, _ => .bad) q fun α env x h1 v H1 c rx k => bindR (g := fun y h2 => match x, y with
    | .int i, .int j => if -B62 ≤ i ∧ i < B62 ∧ -B62 ≤ j ∧ j < B62 then Res.ok (Src.mk (rng i (j - i).toNat 1) []) h2 else .bad
    | _, _ => .bad) c k fun α2 y h2 w H2 le c2 ry k2 => by
    cases x with
    | int i =>
      cases y with
      | int j =>
        obtain ⟨hb, k⟩ := Run.ite k2
        exact ⟨i, j, by rw [of_int rx, of_int ry], by simp only [B62] at hb; omega, Run.done k c2.hc its_rng⟩
      | _ => exact k2.elim
    | _ => exact k2.elim
theorem rgc {i j s : Int} (h : -B60 ≤ i ∧ i < B60 ∧ -B60 ≤ j ∧ j < B60 ∧ 0 < s ∧ s < 1073741824) : RgC i j s ((j - i + s - 1) / s).toNat := by
  simp only [B60] at h
  obtain ⟨h1, h2, h3, h4, h5, h6⟩ := h
  have sz : Builtin.Range.rangeSize i j s = (((j - i + s - 1) / s).toNat : Int) := by
    unfold Builtin.Range.rangeSize
    rw [if_pos h5]
    by_cases hij : i < j
    · rw [if_pos hij]
      have e : j - i + s - 1 = (j - i - 1) + s := by omega
      rw [e, Int.add_ediv_of_dvd_right (Int.dvd_refl s), Int.ediv_self (by omega)]
      have : 0 ≤ (j - i - 1) / s := Int.ediv_nonneg (by omega) (by omega)
      omega
    · rw [if_neg hij]
      have : (j - i + s - 1) / s ≤ 0 := by
        by_cases hz : j - i + s - 1 < 0
        · exact Int.le_of_lt (Int.ediv_neg_of_neg_of_pos hz h5)
        · rw [Int.ediv_eq_zero_of_lt (by omega) (by omega)]; omega
      omega
  refine ⟨by omega, by omega, ?_, sz⟩
  have hq : ((j - i + s - 1) / s).toNat < 9223372036854775808 := by
    have h7 : (j - i + s - 1) / s * s ≤ j - i + s - 1 := Int.ediv_mul_le _ (by omega)
    have h8 : (j - i + s - 1) / s ≤ j - i + s - 1 ∨ (j - i + s - 1) / s < 0 := by
      by_cases hz : (j - i + s - 1) / s < 0
      · exact .inr hz
      · exact .inl (Int.ediv_le_self _ (by
          by_cases hy : 0 ≤ j - i + s - 1
          · exact hy
          · exact absurd (Int.ediv_neg_of_neg_of_pos (by omega) h5) hz))
    omega
  unfold Builtin.Range.small
  rw [sz]
  simp only [Builtin.Range.rangeFitsLong, Bool.and_eq_true, Bool.or_eq_true, decide_eq_true_eq, beq_iff_eq]
  rw [if_pos h5]
  simp only [Bool.and_eq_true, decide_eq_true_eq]
  omega
theorem qi_rng3 (hg : Gl X "range") (hm : X.mg "range" = none) (ha : PE X a (semE W Wx fa)) (hb : PE X b (semE W Wx fb)) (hc : PE X c (semE W Wx fc)) (hpl : (backTo pos (starEach [b, c] X.env)).any (·.1) = false := by rfl)
    (h1 : starEach [a, b, c] X.env = (false, eval a X.env) :: starEach [b, c] X.env := by rfl) (h2 : starEach [b, c] X.env = (false, eval b X.env) :: starEach [c] X.env := by rfl) (h3 : starEach [c] X.env = (false, eval c X.env) :: starEach [] X.env := by rfl) : PI X tg (.Call (.Name "range" p) [a, b, c] [] pos) (semI W Wx (i_rng3 fa fb fc)) :=
  (pi_range3 hg hm (pa_cons ha (pa_cons hb (pa_cons hc pa_nil h3) h2) h1) h1 hpl).imp fun σ H R q => bindG (g := fun env x h1 => (fb env h1).bind fun y h2 => (fc env h2).bind fun z h3 => match x, y, z with
    | .int i, .int j, .int s => if -B60 ≤ i ∧ i < B60 ∧ -B60 ≤ j ∧ j < B60 ∧ 0 < s ∧ s < 1073741824 then Res.ok (Src.mk (rng i ((j - i + s - 1) / s).toNat s) []) h3 else .bad
    | _, _, _ => .bad) q fun α env x h1 v H1 c rx k => bindR (g := fun y h2 => (fc env h2).bind fun z h3 => match x, y, z with
    | .int i, .int j, .int s => if -B60 ≤ i ∧ i < B60 ∧ -B60 ≤ j ∧ j < B60 ∧ 0 < s ∧ s < 1073741824 then Res.ok (Src.mk (rng i ((j - i + s - 1) / s).toNat s) []) h3 else .bad
    | _, _, _ => .bad) c k fun α2 y h2 w H2 le c2 ry k2 => bindR (g := fun z h3 => match x, y, z with
    | .int i, .int j, .int s => if -B60 ≤ i ∧ i < B60 ∧ -B60 ≤ j ∧ j < B60 ∧ 0 < s ∧ s < 1073741824 then Res.ok (Src.mk (rng i ((j - i + s - 1) / s).toNat s) []) h3 else .bad
    | _, _, _ => .bad) c2 k2 fun α3 z h3 u H3 le3 c3 rz k3 => by
    cases x with
    | int i =>
      cases y with
      | int j =>
        cases z with
        | int s =>
          obtain ⟨hb, k⟩ := Run.ite k3
          exact ⟨i, j, s, _, by rw [of_int rx, of_int ry, of_int rz], rgc hb, Run.done k c3.hc its_rngC⟩
        | _ => exact k3.elim
      | _ => exact k3.elim
    | _ => exact k3.elim
theorem qi_zipT {elts : List Expr} {kk : Nat} {tpos : Pos} (hK : W.K = X.K) (hg : Gl X "zip") (hm : X.mg "zip" = none) (ha : PE X a (semE W Wx fa)) (hb : PE X b (semE W Wx fb)) (hpl : (backTo pos (starEach [b] X.env)).any (·.1) = false := by rfl)
    (h1 : starEach [a, b] X.env = (false, eval a X.env) :: starEach [b] X.env := by rfl) (h2 : starEach [b] X.env = (false, eval b X.env) :: starEach [] X.env := by rfl) : PI X (.Tuple elts kk tpos) (.Call (.Name "zip" p) [a, b] [] pos) (semI W Wx (i_zipT fa fb)) :=
  (pi_zipA hg hm (pa_cons ha (pa_cons hb pa_nil h2) h1) h1 hpl).imp fun σ H R q => bindG (g := fun env x h1 => (fb env h1).bind fun y h2 => match x, y with
    | .tup s, .tup t => Res.ok (Src.mk (zipD s t) []) h2
    | _, _ => .bad) q fun α env x h1 v H1 c rx k => bindR (g := fun y h2 => match x, y with
    | .tup s, .tup t => Res.ok (Src.mk (zipD s t) []) h2
    | _, _ => .bad) c k fun α2 y h2 w H2 le c2 ry k2 => by
    cases x with
    | tup s =>
      cases y with
      | tup t =>
        obtain ⟨p1, vs, rfl, hp1, r1⟩ := of_tup (rx.mono le)
        obtain ⟨p2, us, rfl, hp2, r2⟩ := of_tup ry
        exact ⟨p1, p2, vs, us, rfl, .inr ⟨hK ▸ hp1, hK ▸ hp2, Run.done k2 c2.hc (hK ▸ its_zip hp1 r1 hp2 r2)⟩⟩
      | _ => exact k2.elim
    | _ => exact k2.elim
end
end IR
end

section
set_option Elab.async false
set_option linter.all false
set_option autoImplicit false
set_option maxRecDepth 100000
set_option maxHeartbeats 4000000
/-! own == and !=, properties, built-ins by own methods, fields, displays with a star, three at once -/
namespace IR
open PySem PySem.Spec PyProof.Rows L2
section
variable {prog : Program} {w : World} {A : Around} {E : Value → Shared → Prop} {s : Shared} {K : PySem.W.Frag} {x y C f : Addr} {ox oy : Obj} {od oe : Option Obj}
theorem bind_ne (self : Value) : bindSpecial (.builtin "object.__ne__") self = pure (.builtin "object.__ne__", [self]) := PySem.F.slot_zip_ne.bind self
theorem ne_own {Q : Value → Shared → Prop} (hu : A.units + 1 < cLine) (X : K.In s.heap) (I : PySem.W.InstAt s.heap x ox C od) (J : PySem.W.InstAt s.heap y oy C oe) (hn : PySem.W.findIn K (.ref C) (Str.ofString "__ne__") = some (some (.builtin "object.__ne__")))
    (he : PySem.W.findIn K (.ref C) (Str.ofString "__eq__") = some (some (.ref f))) (hf : PySem.W.isFn K (.ref f) = true) (ho : PySem.W.mroIn K C (.type "object") = some true)
    (h : wpAny (model prog w) A.in1 (call (.ref f) [.ref x, .ref y]) (fun v s' => ∃ b, v = .bool b ∧ Q (.bool (!b)) s') E s) : wpAny (model prog w) A (richCompare .NotEq (.ref x) (.ref y)) Q E s := by
  have hi : PySem.W.Looks (model prog w) s.heap (isInstance (.ref x) (.type "object")) true := by
    have L := PySem.W.looks_mroIn (M := model prog w) X ho
    have T : PySem.W.Looks (model prog w) s.heap (typeOf (.ref x)) (.ref C) := I.type
    exact T.andThen L
  have body : wpAny (model prog w) A.in1 (Builtin.«object.__ne__» ⟨[.ref x, .ref y], []⟩) (fun fin s' => match fin with
      | .done fl => match fl with
        | .ret v => ∃ b, v = .bool (!b) ∧ Q (.bool (!b)) s'
        | _ => False
      | .again _ => False) E s := by
    have hu1 : A.in1.units < cLine := hu
    unfold Builtin.«object.__ne__»
    repeat (first
      | with_reducible refine wpAny_cRoomFor hu1 ?_
      | (refine wpAny_bind (m := callSpecialIfBound? (.ref x) (Str.ofString "__eq__") [.ref y])
          (PySem.W.ifBound_K X I he hf (wpAny_mono h (fun r s' hr => by
            obtain ⟨b, rfl, hq⟩ := hr
            repeat (first | exact ⟨b, rfl, hq⟩ | exact wpAny_pure ⟨b, rfl, hq⟩ | exact wpAny_truthy_bool ⟨b, rfl, hq⟩ | (refine wpAny_bind (m := truthy (.bool _)) (wpAny_truthy_bool ?_)) | wp_step)) fun _ _ e => e)))
      | wp_step)
  have one : wpAny (model prog w) A (tryCompare (.ref x) (cmpInfo .NotEq).2.1 (.ref y)) (fun r s' => ∃ v, r = some v ∧ Q v s') E s := by
    unfold tryCompare
    refine wpAny_bind ?_
    simp only [callSpecialIfBound?, bindSpecialIfBound?]
    refine wpAny_holding (wpAny_bind (wpAny_bind (wpAny_bind (I.type.here ((PySem.W.looks_findIn X hn).here ?_)))))
    simp only [bind_ne]
    refine wpAny_bind (wpAny_askSetting (wpAny_ite ?_))
    have fin : wpAny (model prog w) A (call (.builtin "object.__ne__") ([.ref x] ++ [.ref y]) >>= fun v => pure (some v)) (fun r s' => wpAny (model prog w) A (match r with
        | some .notImplemented | none => pure none
        | some v => pure (some v)) (fun r s' => ∃ v, r = some v ∧ Q v s') E s') E s := by
      refine wpAny_bind (wpAny_call (codeAny_call_builtin PySem.F.slot_zip_ne.plain PySem.F.cmpEntry_ne (PySem.W.check_slot PySem.F.cmpKind_ne PySem.F.cmpSplit_ne hi (PySem.F.cmpArgs_ne _ _) (wpAny_mono body (fun fin s' hf => ?_) fun _ _ e => e))))
      cases fin with
      | done fl =>
        cases fl with
        | ret v =>
          obtain ⟨b, rfl, q⟩ := hf
          exact wpAny_pure (wpAny_pure ⟨_, rfl, q⟩)
        | _ => exact hf.elim
      | again _ => exact hf.elim
    split
    · exact wpAny_bind (wpAny_pure (wpAny_pure fin))
    · exact wpAny_tryCatch (wpAny_bind (wpAny_pure (wpAny_pure fin)))
  unfold richCompare
  simp only [oneThing_ref]
  refine wpAny_holding (wpAny_bind (wpAny_cRoomFor (Nat.lt_of_succ_lt hu) ?_))
  refine wpAny_bind (I.type.here (wpAny_bind (J.type.here ?_)))
  rw [show (Value.ref C != Value.ref C) = false from by simp]
  simp only [Bool.false_eq_true, if_false]
  refine wpAny_bind (wpAny_pure ?_)
  simp only [Bool.false_eq_true, if_false]
  refine wpAny_bind (wpAny_mono one (fun r s' hr' => ?_) fun _ _ e => e)
  obtain ⟨v, rfl, hq⟩ := hr'
  exact wpAny_pure hq
end
end IR
end

section
set_option Elab.async false
set_option linter.all false
set_option autoImplicit false
set_option maxRecDepth 100000
set_option maxHeartbeats 4000000
namespace IR
open PySem PySem.Spec PyProof.Rows L2
section
variable {X : Cx} {W : Wd} {Wx : WX} {k : Nat} {f : Addr} {fd : FuncData} {ps : List Str} {g : OL} {σ : L2.St} {H : Hp} {s : Shared} {Q : VK} {pins : List (Addr × Obj)} {a b c e o value : Expr} {fa fb fc fo : SE} {pos pos' : Pos} {α : List Addr} {h : IR.Heap} {E : XK} {us : List Value} {zs : List V} {es : List Expr} {ga : SA}
abbrev X0 : XK := fun _ _ _ => False
/-- a def run further in, without errors -/
theorem run_at {A' : Around} {E' : Value → Shared → Prop} (F : FnG X.prog X.w X.K X.mg X.base k f fd ps (spG W g)) (hr : Room k A') (hn : NoG A') (bd : Binds X.K fd ps []) (I : L2.Inv X pins σ H s) (e0 : Env0 X.prog X.w X.K X.mg X.base A' X.stack s H) (r : Vals zs us) (h : spG W g zs H Q X0) :
    wpAny (model X.prog X.w) A' (call (.ref f) us) (EP X pins σ Q) E' s := by
  have hl : (us ++ []).length = ps.length := by rw [List.append_nil, ← r.length]; exact F.len _ _ _ _ h
  have bb := bd s us I.kIn hl
  rw [List.append_nil] at bb
  refine wpAny_call (codeAny_mono (F.run A' X.stack s H ⟨us, []⟩ us zs Q X0 hr hn e0 bb r h) fun r s' hq => ?_)
  cases r with
  | error e =>
    obtain ⟨_, _, _, _, _, _, _, _, _, _, _, _, z⟩ := hq
    exact z.elim
  | ok fl =>
    cases fl with
    | ret u => exact I.after hq
    | next => exact hq.elim
    | brk => exact hq.elim
    | cont => exact hq.elim
theorem noX0 {r : Res D} (q : Run W (RV W) E α H Q (noX r)) : Run W (RV W) X0 α H Q r := noX_E q
/-- != of two of a class -/
theorem q_neOwn {cc fn : Nat} {κ : Kap} (hK : W.K = X.K) (hn' : PySem.W.findIn X.K (.ref (W.cl cc)) (Str.ofString "__ne__") = some (some (.builtin "object.__ne__"))) (he : PySem.W.findIn X.K (.ref (W.cl cc)) (Str.ofString "__eq__") = some (some (.ref f))) (isf : PySem.W.isFn X.K (.ref f) = true) (ho : PySem.W.mroIn X.K (W.cl cc) (.type "object") = some true)
    (F : FnG X.prog X.w X.K X.mg X.base k f fd ps (spG W (κ.ini fn))) (bd : Binds X.K fd ps []) (hr : Room (k + 1) X.A) (hn : NoG X.A) (ha : PE X a (semE W Wx fa)) (hb : PE X b (semE W Wx fb)) (hm : behindInMarks .NotEq b = false := by rfl) :
    PE X (.Compare a [.NotEq] [b] pos) (semE W Wx (e_2 (o_ncmp κ cc fn) fa fb)) :=
  ⟨fun pins s σ H Q I hq => wpAny_Compare1 (bin ha hb I (sem_2V hq) fun v u s2 x y H2 I2 rx ry q => by
    obtain ⟨α, h, dx, dy, hc, r1, r2, q⟩ := q
    unfold o_ncmp at q
    split at q
    · rename_i e
      obtain ⟨p, ox, od, rfl, rfl, J⟩ := ins_at hc r1 e.1 I2 rx
      obtain ⟨p2, oy, oe, rfl, rfl, J2⟩ := ins_at hc r2 e.2 I2 ry
      show wpAny _ _ (richCompare .NotEq (.ref p) (.ref p2)) _ _ _
      refine ne_own hr.in1.units0 I2.kIn J J2 hn' he isf ho ?_
      refine wpAny_mono (run_at (zs := [V.ref p, V.ref p2]) (Q := fun z H' => ∃ b, z = .bl b ∧ Q (.bl (!b)) H') F hr.in1 hn bd I2 I2.env0.in1 (.cons rfl (.cons rfl .nil)) ⟨α, [dx, dy], h, hc, by simp only [Reps]; exact ⟨_, _, rfl, r1, _, _, rfl, r2, rfl⟩, ?_⟩) (fun z s' hz => ?_) fun _ _ z => z
      · cases e1 : κ.ini fn [dx, dy] h with
        | bad => rw [e1] at q; exact q
        | exc c1 d h' => rw [e1] at q; exact q.elim
        | ok z h1 =>
          rw [e1] at q
          simp only [noX_ok, Res.bind_ok] at q
          obtain ⟨b, eb, q⟩ := Run.lift q
          exact fun α' H' u l hc' ru => ⟨b, rep_bl eb ru, q α' H' (.bl (!b)) l hc' r_bl⟩
      · obtain ⟨z', H', I', rz, b, rfl, qb⟩ := hz
        cases (show z = Value.bool b from rz)
        exact ⟨b, rfl, .bl (!b), H', I', rfl, qb⟩
    · exact q.elim) hm⟩
/-- o.f, a property -/
theorem q_prop {cc fn : Nat} {κ : Kap} {nm : Str} {pa : Addr} (hK : W.K = X.K) (cl : Cls X.K (W.cl cc)) (hp : PropOf X.K (W.cl cc) nm pa f) (F : FnG X.prog X.w X.K X.mg X.base k f fd ps (spG W (κ.ini fn))) (bd : Binds X.K fd ps []) (hr : Room (k + 1) X.A) (hn : NoG X.A) (ho : PE X o (semE W Wx fo))
    (hab : attributeBase o nm X.env (eval o X.env) = eval o X.env := by rfl) : PE X (.Attribute o nm pos) (semE W Wx (e_prop κ cc fn fo)) := by
  refine ⟨fun pins s σ H Q I h => ?_⟩
  have h' : semE W Wx fo σ H fun v H1 => ∃ α x h1, HCorr W α h1 H1 ∧ Rep W.K α H1 x v ∧ Run W (RV W) (WE Wx σ) α H1 Q (if clsD h1 x = some cc then noX (κ.ini fn [x] h1) else .bad) :=
    bindG (g := fun env x h1 => if clsD h1 x = some cc then noX (κ.ini fn [x] h1) else .bad) h fun α env x h1 v H1 c rx k => ⟨α, x, h1, c.hc, rx, k⟩
  refine attr_of hab (thn (ho.run pins s σ H _ I h') fun u s1 ⟨v, H1, I1, rx, α, x, h1, hc, rv, q⟩ => ?_)
  obtain ⟨ec, q⟩ := Run.ite q
  obtain ⟨p, ox, od, rfl, rfl, J⟩ := ins_at hc rv ec I1 rx
  obtain ⟨rest, hrec⟩ := hp.rec_
  have I2 := I1.tok (s1.toks + 1)
  have hcs : (PySem.W.clsIn X.K (W.cl cc)).isSome = true := by
    obtain ⟨cd, hcd, _⟩ := PySem.W.any_some cl.hd
    rw [hcd]; rfl
  have hl : ([Value.ref p] ++ []).length = ps.length := by
    rw [← F.len [V.ref p] H1 Q X0 ⟨α, [x], h1, hc, by simp only [Reps]; exact ⟨_, _, rfl, rv, rfl⟩, noX0 q⟩]; rfl
  refine PySem.W.get_bind I1.kIn J (PySem.W.plainGet_of (cl.get nm)).1 (PySem.W.findObj_data hcs hp.at_ hp.get hp.tak) (PySem.W.plainGet_of (cl.get nm)).2 (wpAny_call (PySem.W.prop_get (s := { s1 with toks := s1.toks + 1 }) I1.kIn hrec ?_))
  refine codeAny_mono (F.run X.A.in1 X.stack { s1 with toks := s1.toks + 1 } H1 ⟨[.ref p], []⟩ [.ref p] [.ref p] Q X0 hr.in1 hn I2.env0.in1 (bd _ [.ref p] I2.kIn hl) (.cons rfl .nil) ⟨α, [x], h1, hc, by simp only [Reps]; exact ⟨_, _, rfl, rv, rfl⟩, noX0 q⟩) fun r s' hq => ?_
  cases r with
  | error er =>
    obtain ⟨_, _, _, _, _, _, _, _, _, _, _, _, z⟩ := hq
    exact z.elim
  | ok fl =>
    cases fl with
    | ret u =>
      obtain ⟨v, H', I3, rv, q3⟩ := I2.after hq
      show wpAny _ _ (handedOut u) _ _ _
      rw [PySem.W.handedOut_of (handed_of rv)]
      exact wpAny_pure ⟨v, H', I3, rv, q3⟩
    | next => exact False.elim hq
    | brk => exact False.elim hq
    | cont => exact False.elim hq
/-- abs(x), x of a class -/
theorem s_absOwn {cc fn : Nat} {κ : Kap} (hK : W.K = X.K) (at_ : PySem.W.findIn X.K (.ref (W.cl cc)) (Str.ofString "__abs__") = some (some (.ref f))) (isf : PySem.W.isFn X.K (.ref f) = true) (F : FnG X.prog X.w X.K X.mg X.base k f fd ps (spG W (κ.low fn))) (bd : Binds X.K fd ps []) (hr : Room (k + 1) X.A) (hn : NoG X.A) :
    CallR X (.builtin "abs") (fun zs H Q => ∃ α h xs, HCorr W α h H ∧ Reps W.K α H xs zs ∧ Run W (RV W) X0 α H Q (o_low κ cc fn xs h)) := by
  intro pins s σ H zs us Q I r ⟨α, h, xs, hc, rx, q⟩
  unfold o_low at q
  split at q
  · obtain ⟨v, rfl, rv⟩ := rep1 rx
    obtain ⟨ec, q⟩ := Run.ite q
    obtain ⟨u, rfl, ru⟩ := vals1 r
    obtain ⟨p, ox, od, rfl, rfl, J⟩ := ins_at hc rv ec I ru
    exact abs_own I.kIn J at_ isf (run_at (zs := [V.ref p]) F hr.in1 hn bd I I.env0.in1 (.cons rfl .nil) ⟨α, _, h, hc, rx, noX0 q⟩)
  · exact q.elim
theorem s_boolOwn {cc fn : Nat} {κ : Kap} (hK : W.K = X.K) (at_ : PySem.W.findIn X.K (.ref (W.cl cc)) (Str.ofString "__bool__") = some (some (.ref f))) (isf : PySem.W.isFn X.K (.ref f) = true) (F : FnG X.prog X.w X.K X.mg X.base k f fd ps (spG W (κ.low fn))) (bd : Binds X.K fd ps []) (hr : Room (k + 2) X.A) (hn : NoG X.A) :
    CallR X (.type "bool") (fun zs H Q => ∃ α h xs, HCorr W α h H ∧ Reps W.K α H xs zs ∧ Run W (RV W) X0 α H Q ((o_low κ cc fn xs h).bind fun v h1 => (liftO (asB v) h1).bind okB)) := by
  intro pins s σ H zs us Q I r ⟨α, h, xs, hc, rx, q⟩
  unfold o_low at q
  split at q
  · rename_i x
    obtain ⟨v, rfl, rv⟩ := rep1 rx
    by_cases ec : clsD h x = some cc
    · rw [if_pos ec] at q
      obtain ⟨u, rfl, ru⟩ := vals1 r
      obtain ⟨p, ox, od, rfl, rfl, J⟩ := ins_at hc rv ec I ru
      refine bool_own I.kIn J at_ isf (wpAny_mono (run_at (zs := [V.ref p]) (Q := fun z H' => ∃ b, z = .bl b ∧ Q (.bl b) H') F hr.in1.in1 hn bd I I.env0.in1.in1 (.cons rfl .nil) ⟨α, _, h, hc, rx, ?_⟩) (fun z s' hz => ?_) fun _ _ z => z)
      · cases e1 : κ.low fn [x] h with
        | bad => rw [e1] at q; exact q
        | exc c1 d h' => rw [e1] at q; exact q.elim
        | ok z h1 =>
          rw [e1] at q
          simp only [noX_ok, Res.bind_ok] at q
          obtain ⟨b, eb, q⟩ := Run.lift q
          exact fun α' H' u l hc' ru => ⟨b, rep_bl eb ru, q α' H' (.bl b) l hc' r_bl⟩
      · obtain ⟨z', H', I', rz, b, rfl, qb⟩ := hz
        cases (show z = Value.bool b from rz)
        exact ⟨b, rfl, .bl b, H', I', rfl, qb⟩
    · rw [if_neg ec] at q; exact q.elim
  · exact q.elim
theorem noX_noX {β : Type} (r : Res β) : noX (noX r) = noX r := by cases r <;> rfl
theorem low_noX {κ : Kap} {cc fn : Nat} {xs : List D} {h : IR.Heap} : o_low κ cc fn xs h = noX (o_low κ cc fn xs h) := by
  unfold o_low
  split
  · split
    · rw [noX_noX]
    · rfl
  · rfl
theorem bown_noX {κ : Kap} {cc fn : Nat} {xs : List D} {h : IR.Heap} : b_own (o_low κ cc fn) xs h = noX (b_own (o_low κ cc fn) xs h) := by
  unfold b_own
  rw [low_noX]
  cases o_low κ cc fn xs h with
  | ok v h1 =>
    simp only [noX_ok, Res.bind_ok]
    cases asB v <;> rfl
  | exc c v h1 => rfl
  | bad => rfl
variable {x : Str} {p : Pos}
theorem q_absOwn {cc fn : Nat} {κ : Kap} (hK : W.K = X.K) (hx : x = "abs") (at_ : PySem.W.findIn X.K (.ref (W.cl cc)) (Str.ofString "__abs__") = some (some (.ref f))) (isf : PySem.W.isFn X.K (.ref f) = true) (F : FnG X.prog X.w X.K X.mg X.base k f fd ps (spG W (κ.low fn))) (bd : Binds X.K fd ps []) (hr : Room (k + 3) X.A) (hn : NoG X.A) (hg : Gl X x) (hm : X.mg x = none) (ha : PA X (e :: es) (semA W Wx ga))
    (he : starEach (e :: es) X.env = (false, eval e X.env) :: starEach es X.env := by rfl) (hpl : (backTo pos (starEach es X.env)).any (·.1) = false := by rfl) : PE X (.Call (.Name x p) (e :: es) [] pos) (semE W Wx (e_call (o_low κ cc fn) ga)) := by
  subst hx
  refine (pe_callB (s_absOwn hK at_ isf F bd (hr.mono (by omega)) hn) hg hm (by rfl) ha (by decide) (by decide) he hpl).imp fun σ H Q q => bindG (g := fun env xs h1 => o_low κ cc fn xs h1) q fun α env xs h1 vs H1 c rx k => ?_
  rw [low_noX] at k
  have k2 := noX0 k
  exact ⟨α, h1, xs, c.hc, rx, k2⟩
theorem q_boolOwn {cc fn : Nat} {κ : Kap} (hK : W.K = X.K) (hx : x = "bool") (at_ : PySem.W.findIn X.K (.ref (W.cl cc)) (Str.ofString "__bool__") = some (some (.ref f))) (isf : PySem.W.isFn X.K (.ref f) = true) (F : FnG X.prog X.w X.K X.mg X.base k f fd ps (spG W (κ.low fn))) (bd : Binds X.K fd ps []) (hr : Room (k + 3) X.A) (hn : NoG X.A) (hg : Gl X x) (hm : X.mg x = none) (ha : PA X (e :: es) (semA W Wx ga))
    (he : starEach (e :: es) X.env = (false, eval e X.env) :: starEach es X.env := by rfl) (hpl : (backTo pos (starEach es X.env)).any (·.1) = false := by rfl) : PE X (.Call (.Name x p) (e :: es) [] pos) (semE W Wx (e_call (b_own (o_low κ cc fn)) ga)) := by
  subst hx
  refine (pe_callTy (s_boolOwn hK at_ isf F bd (hr.mono (by omega)) hn) hg hm (by rfl) ha (by decide) (by decide) he hpl).imp fun σ H Q q => bindG (g := fun env xs h1 => b_own (o_low κ cc fn) xs h1) q fun α env xs h1 vs H1 c rx k => ?_
  rw [bown_noX] at k
  have k2 := noX0 k
  exact ⟨α, h1, xs, c.hc, rx, k2⟩
end
end IR
end

section
set_option Elab.async false
set_option linter.all false
set_option autoImplicit false
set_option maxRecDepth 100000
set_option maxHeartbeats 4000000
namespace IR
open PySem PySem.Spec PyProof.Rows L2 StX
section
variable {X : Cx} {W : Wd} {Wx : WX} {k : Nat} {f : Addr} {fd : FuncData} {ps : List Str} {g : OL} {σ : L2.St} {H : Hp} {s : Shared} {Q : VK} {pins : List (Addr × Obj)} {a b c e o value : Expr} {fa fb fc fo : SE} {pos pos' : Pos} {α : List Addr} {h : IR.Heap} {E : XK} {us : List Value} {zs : List V} {es : List Expr} {ga : SA}
theorem put_len (f : String) (d : D) : ∀ fs : List (String × D), (s_attr.putF f d fs).length ≤ fs.length + 1
  | [] => by simp [s_attr.putF]
  | (g, x) :: r => by
    have := put_len f d r
    simp only [s_attr.putF]
    split <;> simp <;> omega
theorem fields_put (inj : ∀ a b, W.fld a = W.fld b → a = b) {f : String} {d : D} {v : V} {α : List Addr} {H : Hp} (rd : Rep W.K α H d v) : ∀ {fs : List (String × D)} {vs : List V}, Reps W.K α H (fs.map (·.2)) vs →
    ∃ vs', putF (W.fld f) v (fields W fs vs) = fields W (s_attr.putF f d fs) vs' ∧ Reps W.K α H ((s_attr.putF f d fs).map (·.2)) vs'
  | [], vs, r => by
    simp only [List.map_nil, Reps] at r
    subst r
    exact ⟨[v], by simp [fields, s_attr.putF, putF], by simp only [s_attr.putF, List.map_cons, List.map_nil, Reps]; exact ⟨_, _, rfl, rd, rfl⟩⟩
  | (g, y) :: fs, vs, r => by
    simp only [List.map_cons, Reps] at r
    obtain ⟨u, rs, rfl, ru, rr⟩ := r
    by_cases hf : g = f
    · subst hf
      refine ⟨v :: rs, by simp [fields, s_attr.putF, putF], ?_⟩
      simp only [s_attr.putF, if_true, List.map_cons, Reps]
      exact ⟨_, _, rfl, rd, rr⟩
    · have h2 : ¬ W.fld g = W.fld f := fun z => hf (inj _ _ z)
      obtain ⟨vs', e1, e2⟩ := fields_put inj rd rr
      refine ⟨u :: vs', ?_, ?_⟩
      · unfold fields at e1 ⊢
        simp only [List.map_cons, List.zip_cons_cons, putF, if_neg h2, s_attr.putF, if_neg hf]
        rw [e1]
      · simp only [s_attr.putF, if_neg hf, List.map_cons, Reps]
        exact ⟨_, _, rfl, ru, e2⟩
/-- o.f = e -/
theorem q_attr {fn : String} (hK : W.K = X.K) (inj : ∀ a b, W.fld a = W.fld b → a = b) (hcl : ∀ c, ClsOk W c) (hna : ∀ c, NoAttr W.K (W.cl c) (W.fld fn)) (ho : PE X o (semE W Wx fo)) (hv : PE X value (semE W Wx fa)) (hs : swapsWith value (some (.Attribute o (W.fld fn) pos')) pos.line X.env = pure false := by rfl) :
    PS X (.Assign [.Attribute o (W.fld fn) pos'] value pos) (semS W Wx (s_attr fn fo fa)) :=
  (ps_fld ho hv hs).imp fun De σ H q => toG (R := RV W) (g := fun env v h1 => (fo env h1).to env fun x h2 => match x with
  | .ref k => match h2[k]? with
    | some (.ins c fs) => if fs.length < 500 then .nx env (h2.set k (.ins c (s_attr.putF fn v fs))) else .bad
    | _ => .bad
  | _ => .bad) q fun α env d h1 v H1 c rd k1 => toR (R := RV W) (g := fun x h2 => match x with
  | .ref k => match h2[k]? with
    | some (.ins c fs) => if fs.length < 500 then .nx env (h2.set k (.ins c (s_attr.putF fn d fs))) else .bad
    | _ => .bad
  | _ => .bad) c k1 fun α2 x h2 w H2 le c2 rx k2 => by
    cases x with
    | ref i =>
      simp only at k2
      split at k2
      · rename_i cc fs e1
        split at k2
        · rename_i hz
          obtain ⟨p, ep, rfl⟩ := of_ref rx
          obtain ⟨dx, vs, hp, r⟩ := c2.hc.ob i _ p e1 ep
          have hl : (fields W fs vs).length = fs.length := by
            unfold fields
            rw [List.length_zip, List.length_map, ← r.length, List.length_map, Nat.min_self]
          refine ⟨p, W.cl cc, dx, _, rfl, hp, hK ▸ (hcl cc).cl, hK ▸ hna cc, by rw [hl]; omega, ?_⟩
          obtain ⟨vs', e2, r2⟩ := fields_put inj (f := fn) (Rep.mono le rd) r
          rw [e2]
          obtain ⟨lw, hw⟩ := write_obj (lo' := .ins cc (s_attr.putF fn d fs)) (o' := .ins (W.cl cc) dx (fields W (s_attr.putF fn d fs) vs')) c2.hc e1 ep (fun {H'} l e => ⟨dx, vs', e, r2.mono l⟩)
          exact k2 _ _ _ lw (c2.later lw hw)
        · exact k2.elim
      · exact k2.elim
    | _ => exact k2.elim
/-- *e in a display -/
theorem qa_star {p : Pos} (hK : W.K = X.K) (ha : PE X a (semE W Wx fa)) (hr : PA X es (semA W Wx ga)) (hs : starEach (.Starred a p :: es) X.env = (true, eval a X.env) :: starEach es X.env := by rfl) : PA X (.Starred a p :: es) (semA W Wx (a_star fa ga)) :=
  (pa_star ha hr hs).imp fun σ H Q q => bindG (g := fun env x h1 => (liftO (items h1 x) h1).bind fun ds h1 => (ga env h1).bind fun xs h2 => Res.ok (ds ++ xs) h2) q fun α env x h1 v H1 c rx k => by
    obtain ⟨ds, e1, k⟩ := Run.lift k
    obtain ⟨p, vs, rfl, hp, r⟩ := items_at c.hc rx e1
    refine ⟨p, vs, rfl, hK ▸ hp.symm, bindR (g := fun xs h2 => Res.ok (ds ++ xs) h2) c k fun α2 xs h2 us H2 le c2 rxs k2 => Run.done (v := vs ++ us) k2 c2.hc ((r.mono le).append rxs)⟩
/-- a, b, c = e1, e2, e3 -/
theorem q_par3 (i j l : Nat) {x y z : Str} {px py pz pt : Pos} {kt k2 pt2} (hc : X.calm = true) (hN : X.N.Nodup) (ha : PE X a (semE W Wx fa)) (hb : PE X b (semE W Wx fb)) (hcc : PE X c (semE W Wx fc))
    (hw : swappedStores [.Tuple [.Name x px, .Name y py, .Name z pz] kt pt] (.Tuple [a, b, c] k2 pt2) X.env = pure (some [x, y, z])) (hi : X.N[i]? = some x := by rfl) (hj : X.N[j]? = some y := by rfl) (hl : X.N[l]? = some z := by rfl) (hij : i ≠ j := by decide) (hil : i ≠ l := by decide) (hjl : j ≠ l := by decide)
    (hx : X.env.scope.names.lookup x = some .local := by rfl) (hy : X.env.scope.names.lookup y = some .local := by rfl) (hz : X.env.scope.names.lookup z = some .local := by rfl)
    (hs : swapsWithSole [.Tuple [.Name x px, .Name y py, .Name z pz] kt pt] (.Tuple [a, b, c] k2 pt2) pos.line X.env = pure false := by rfl)
    (h1 : starEach [a, b, c] X.env = (false, eval a X.env) :: starEach [b, c] X.env := by rfl) (h2 : starEach [b, c] X.env = (false, eval b X.env) :: starEach [c] X.env := by rfl) (h3 : starEach [c] X.env = (false, eval c X.env) :: starEach [] X.env := by rfl) :
    PS X (.Assign [.Tuple [.Name x px, .Name y py, .Name z pz] kt pt] (.Tuple [a, b, c] k2 pt2) pos) (semS W Wx (s_par3 i j l fa fb fc)) :=
  (ps_par3 hc hN hi hj hl hij hil hjl hx hy hz (qa_cons ha (qa_cons hb (qa_cons hcc qa_nil h3) h2) h1) hw hs).imp fun De σ H ⟨α, env, h, c, q⟩ => by
    simp only [s_par3] at q
    refine ⟨α, env, h, c, ?_⟩
    simp only [a_cons, a_nil]
    cases e : fa env h with
    | bad => rw [e] at q; exact q
    | exc c1 d h' => rw [e] at q; exact fun α' H' dx v le hc r x => q α' σ H' dx v le (c.later le hc) r x
    | ok z h1 =>
      rw [e] at q
      simp only [Res.to_ok] at q
      simp only [Res.bind_ok]
      cases e2 : fb env h1 with
      | bad => rw [e2] at q; exact q
      | exc c1 d h' => rw [e2] at q; exact fun α' H' dx v le hc r x => q α' σ H' dx v le (c.later le hc) r x
      | ok z2 h2 =>
        rw [e2] at q
        simp only [Res.to_ok] at q
        simp only [Res.bind_ok]
        cases e3 : fc env h2 with
        | bad => rw [e3] at q; exact q
        | exc c1 d h' => rw [e3] at q; exact fun α' H' dx v le hc r x => q α' σ H' dx v le (c.later le hc) r x
        | ok z3 h3 =>
          rw [e3] at q
          simp only [Res.to_ok] at q
          intro α' H' vs le hc r
          simp only [RL, Reps] at r
          obtain ⟨v, r1, rfl, rv, w, r2, rfl, rw', u, r3, rfl, ru, rfl⟩ := r
          exact ⟨v, w, u, rfl, q α' _ H' le ((((c.later le hc).set rv).set rw').set ru)⟩
/-- name += e, of ints -/
theorem ip_gen {op : O2} {r : TIp} (hs : O2S W op r) {i : Nat} {De : Ends} (q : semS W Wx (s_aug i op fa) De σ H) : tAug i (semE W Wx fa) r De σ H := by
  obtain ⟨α, env, h, c0, q⟩ := q
  simp only [s_aug] at q
  split at q
  · rename_i d0 e0
    obtain ⟨v0, ev, rv⟩ := c0.en i d0 e0
    refine ⟨v0, ev, ?_⟩
    refine toR (R := RV W) (g := fun y h1 => (op d0 y h1).to env fun z h2 => .nx (env.set i (some z)) h2) c0 q fun α' y h1 w H1 le c1 ry k1 => ?_
    refine hs (WE Wx σ) α' H1 h1 d0 y v0 w _ c1.hc (rv.mono le) ry ?_
    cases e1 : op d0 y h1 with
    | bad => rw [e1] at k1; exact k1.elim
    | exc c2 d h' => rw [e1] at k1; exact fun β H2 dx v l hc r x => k1 β σ H2 dx v l (c1.later l hc) r x
    | ok z h2 =>
      rw [e1] at k1
      exact fun α2 H2 v le2 hc2 r => k1 α2 _ H2 le2 ((c1.later le2 hc2).set r)
  · exact q.elim
theorem s_addI : O2S W o_addI (ipI fun i j => i + j) := by
  intro E α H h x y v w Q hc rx ry k
  cases x with
  | int i =>
    cases y with
    | int j => exact ⟨i, j, of_int rx, of_int ry, Run.done k hc r_int⟩
    | _ => exact k.elim
  | _ => exact k.elim
theorem s_subI : O2S W o_subI (ipI fun i j => i - j) := by
  intro E α H h x y v w Q hc rx ry k
  cases x with
  | int i =>
    cases y with
    | int j => exact ⟨i, j, of_int rx, of_int ry, Run.done k hc r_int⟩
    | _ => exact k.elim
  | _ => exact k.elim
theorem q_augI (i : Nat) {x : Str} {op' : Operator} {op : O2} {r : TIp} (hN : X.N.Nodup) (ip : PIp X op' r) (hs : O2S W op r) (he : PE X e (semE W Wx fa)) (hi : X.N[i]? = some x := by rfl) (hx : Loc X.env.scope x := by first | exact Or.inl rfl | exact Or.inr rfl) (hf : X.fn x = true ∨ X.env.scope.names.lookup x = some .local := by first | exact .inl rfl | exact .inr rfl | assumption) :
    PS X (.AugAssign (.Name x pos') op' e pos) (semS W Wx (s_aug i op fa)) := (ps_aug hN hi hx he ip hf).imp fun De σ H q => ip_gen hs q
/-! bool(x) of a value -/
theorem call_boolT : CallR X (.type "bool") (fun xs H Q => ∃ (a : Addr) (zs : List V), xs = [.ref a] ∧ SqT X.K H a zs ∧ Q (.bl (!zs.isEmpty)) H) := by
  intro pins s σ H zs us Q I r ⟨a, xs, e, ht, q⟩
  subst e
  obtain ⟨u, rfl, ru⟩ := vals1 r
  cases (show u = Value.ref a from ru)
  obtain ⟨its, rv, pl, hz⟩ := I.tuple ht
  have hl := line63
  have hlen := rv.length
  refine callType_codes (T := "bool") (Bi := Builtin.«object.__init__») (Q₁ := fun r s1 => ∃ b, r = Value.bool b ∧ EP X pins σ Q r s1) PySem.F.called_bool (PySem.F.typeCall_bool_1 _) PySem.F.entry_object_init ?_ ?_
  · refine codeAny_of_tree ?_
    show wpAny _ X.A.in1.in1 (do checkBuiltinCall "bool.__new__" ⟨[.type "bool", .ref a], []⟩; again (.builtin "bool.__new__" ⟨[.type "bool", .ref a], []⟩)) _ _ s
    refine wpAny_bind (wpAny_of_eq (PySem.F.newCall_bool_1 _) (wpAny_pure ⟨plainId_quiet (by decide +kernel) _, codeAny_builtin PySem.F.entry_bool_new ?_⟩))
    rw [Around.under_plainId (by decide +kernel) _]
    unfold Builtin.«bool.__new__»
    refine wpAny_bind (wpAny_of_eq (a := true) type_bool' ?_)
    refine PySem.W.KFB.if_not rfl ?_
    refine wpAny_bind (wpAny_of_eq (a := true) PySem.F.conv_sub_bool ?_)
    refine PySem.W.KFB.if_not rfl ?_
    have tr : wpAny (model X.prog X.w) X.A.in1.in1 (truthy (.ref a)) (fun b s1 => EP X pins σ Q (.bool b) s1) X.xe s := by
      refine truthy_tuple pl (by simp only [List.size_toArray]; omega) ⟨.bl (!xs.isEmpty), H, I.tok _, ?_, q⟩
      rw [isEmpty_of rv]; exact rfl
    repeat (any_goals (first | assumption | (refine wpAny_bind (m := truthy (.ref a)) (wpAny_mono tr (fun b s' hb => ?_) fun _ _ y => y)) | wp_step))
    exact ⟨b, rfl, hb⟩
  · rintro obj s1 ⟨b, rfl, hq⟩
    exact ⟨rfl, PySem.F.args_object_init_2 _ _, object_init_meets PySem.F.called_bool.init.lookup PySem.F.called_bool.made (by decide) X.prog X.w X.A.in1 _ s1 ⟨rfl, rfl, hq⟩⟩
abbrev rBoolV (K : PySem.W.Frag) : List V → Hp → VK → Prop := fun xs H Q => ((∃ i, xs = [.int i] ∧ Q (.bl (i != 0)) H) ∨ ∃ k, xs = [.bl k] ∧ Q (.bl k) H) ∨ (∃ (a : Addr) (zs : List V), xs = [.ref a] ∧ SqL K H a zs ∧ Q (.bl (!zs.isEmpty)) H) ∨ (∃ (a : Addr) (zs : List V), xs = [.ref a] ∧ SqT K H a zs ∧ Q (.bl (!zs.isEmpty)) H)
theorem call_boolV : CallR X (.type "bool") (rBoolV X.K) := by
  intro pins s σ H zs us Q I r q
  rcases q with q | q | q
  · exact call_bool1 pins s σ H zs us Q I r q
  · exact call_boolL pins s σ H zs us Q I r q
  · exact call_boolT pins s σ H zs us Q I r q
theorem empty_eq {α β : Type} {l : List α} {m : List β} (h : l.length = m.length) : (!l.isEmpty) = !m.isEmpty := by rw [isE, isE, h]
theorem s_bool : OLS W b_bool (rBoolV W.K) := by
  intro E α H h xs vs Q hc rx k
  unfold b_bool at k
  split at k
  · rename_i x
    obtain ⟨v, rfl, rv⟩ := rep1 rx
    obtain ⟨b, e, k⟩ := Run.lift k
    unfold truthB at e
    split at e
    · cases e; exact .inl (.inr ⟨_, by rw [of_bl rv], Run.done k hc r_bl⟩)
    · cases e; exact .inl (.inl ⟨_, by rw [of_int rv], Run.done k hc r_bl⟩)
    · cases e
      obtain ⟨p, vs, rfl, hp, r⟩ := of_tup rv
      exact .inr (.inr ⟨p, vs, rfl, hp, by rw [← empty_eq r.length]; exact Run.done k hc r_bl⟩)
    · cases e
      obtain ⟨p, vs, rfl, hp, r⟩ := of_frz rv
      exact .inr (.inl ⟨p, vs, rfl, hp.sql, by rw [← empty_eq r.length]; exact Run.done k hc r_bl⟩)
    · split at e
      · rename_i e1
        cases e
        obtain ⟨p, vs, _, rfl, hp, r⟩ := lst_at hc rv e1
        exact .inr (.inl ⟨p, vs, rfl, SqL.of hp, by rw [← empty_eq r.length]; exact Run.done k hc r_bl⟩)
      · cases e
    · cases e
  · exact k.elim
end
end IR
end

section
set_option Elab.async false
set_option linter.all false
set_option autoImplicit false
set_option maxRecDepth 100000
set_option maxHeartbeats 4000000
/-! more operations: extend, is of bools, str(int), upper, xs[::-1], isinstance of two -/
namespace IR
open PySem PySem.Spec PyProof.Rows L2
section
variable {X : Cx} {W : Wd} {Wx : WX} {fe fo fa : SE} {e o a : Expr} {pos apos : Pos}
theorem s_isB : O2S W o_isB rIsB := by
  intro E α H h x y v w Q hc rx ry k
  unfold o_isB at k
  split at k
  · exact ⟨_, _, of_bl rx, of_bl ry, Run.done k hc r_bl⟩
  · exact k.elim
theorem s_isnotB : O2S W o_isnotB rNotB := by
  intro E α H h x y v w Q hc rx ry k
  unfold o_isnotB at k
  split at k
  · exact ⟨_, _, of_bl rx, of_bl ry, Run.done k hc r_bl⟩
  · exact k.elim
theorem q_extend (hK : W.K = X.K) (ho : PE X o (semE W Wx fo)) (ha : PE X a (semE W Wx fa)) (hbase : attributeBase o "extend" X.env (eval o X.env) = eval o X.env := by rfl)
    (hfew : ((backTo pos (starEach [a] X.env)).all (fun x => !x.1) && (backToKw pos (keywordEach [] X.env)).all (fun x => x.1.isSome)
      && decide (([a] : List Expr).length + ([] : List Keyword).length + (if ([] : List Keyword).isEmpty then 0 else 1) < 30)) = true := by rfl)
    (hline : (apos.endLine == pos.line) = true := by rfl) (hs : starEach [a] X.env = (false, eval a X.env) :: starEach [] X.env := by rfl) (hplain : (backTo pos (starEach [] X.env)).any (·.1) = false := by rfl) :
    PE X (.Call (.Attribute o "extend" apos) [a] [] pos) (semE W Wx (e_lm m_extend fo fa)) :=
  (pe_bm PySem.F.plainAttrs_list PySem.F.slot_list_extend PySem.F.type_list_extend mt_extend ho (pa_cons ha pa_nil hs) hbase hfew hline hs hplain).imp fun σ H Q q =>
    bindG (g := fun env x h1 => if isLst h1 x then (fa env h1).bind fun y h2 => m_extend x y h2 else .bad) q fun α env x h1 v H1 c rx k => by
      obtain ⟨hl, k⟩ := Run.ite k
      obtain ⟨ty, rfl'⟩ := lst_ty c.hc rx hl
      refine ⟨hK ▸ ty, bindR (g := fun y h2 => m_extend x y h2) c k fun α2 y h2 w H2 le c2 ry k2 => ?_⟩
      have rx2 := rx.mono le
      unfold m_extend at k2
      split at k2
      · split at k2
        · rename_i e1 e2
          obtain ⟨hz, k2⟩ := Run.ite k2
          obtain ⟨p, us, ep, rfl, hp, r⟩ := lst_at c2.hc rx2 e1
          obtain ⟨p2, us2, ep2, rfl, hp2, r2⟩ := lst_at c2.hc ry e2
          refine ⟨p, p2, us, us2, rfl, rfl, hp, hp2, by rw [← r.length, ← r2.length, size_lim]; exact hz, ?_⟩
          obtain ⟨lw, hw⟩ := write_lst c2.hc e1 ep (r.append r2)
          exact k2 _ _ _ lw hw r_non
        · exact k2.elim
      · exact k2.elim
/-! str(..) -/
theorem okT_itoa (i : Int) : okT (itoa i) := by
  intro c hc
  obtain ⟨x, _, rfl⟩ := List.mem_map.mp hc
  exact char_lt x
theorem toStr_itoa (i : Int) : toStr (itoa i) = Str.ofString (toString i) := by
  unfold Str.ofString
  rw [cpsOfBytes_string]
  rfl
def rStr1 : List V → Hp → VK → Prop := fun xs H Q => (∃ i : Int, xs = [.int i] ∧ i.natAbs.log2 < 1920 ∧ Q (.str (Str.ofString (toString i))) H) ∨ ∃ a, xs = [.str a] ∧ Q (.str a) H
theorem call_str1 : CallR X (.type "str") rStr1 := by
  intro pins s σ H xs us Q I r h
  rcases h with h | h
  · exact call_str_int pins s σ H xs us Q I r h
  · exact SkE.call_str_str pins s σ H xs us Q I r h
theorem s_str1 : OLS W b_str rStr1 := by
  intro E α H h xs vs Q hc rx k
  unfold b_str at k
  split at k
  · rename_i i
    obtain ⟨v, rfl, rv⟩ := rep1 rx
    obtain ⟨hz, k⟩ := Run.ite k
    refine .inl ⟨i, by rw [of_int rv], hz, ?_⟩
    rw [← toStr_itoa]
    exact Run.done k hc (r_str (okT_itoa i))
  · rename_i t
    obtain ⟨v, rfl, rv⟩ := rep1 rx
    have rv2 := rv
    simp only [Rep] at rv2
    exact .inr ⟨_, by rw [rv2.1], Run.done k hc (r_str rv2.2)⟩
  · exact k.elim
/-! upper -/
theorem upper_eq {s : Txt} (h : (s.all fun c => decide (c < 128)) = true) : Txt.upper (toStr s) = toStr (s.map upC) := by
  rw [PyProof.Rows.upper_ascii (fun c hc => by
    have := List.all_eq_true.mp h c (by simpa [toStr] using hc)
    exact of_decide_eq_true this)]
  simp only [toStr, List.map_toArray]
  rfl
theorem q_upper (ho : PE X o (semE W Wx fo)) (hbase : attributeBase o "upper" X.env (eval o X.env) = eval o X.env := by rfl) (hline : (apos.endLine == pos.line) = true := by rfl) :
    PE X (.Call (.Attribute o "upper" apos) [] [] pos) (semE W Wx (e_1 o_upper fo)) :=
  (pe_upper ho hbase hline).imp fun σ H Q q => bindG (g := fun _ x h1 => o_upper x h1) q fun α env x h1 v H1 c rx k => by
    unfold o_upper at k
    split at k
    · rename_i t
      obtain ⟨hz, k⟩ := Run.ite k
      have rv2 := rx
      simp only [Rep] at rv2
      refine ⟨⟨_, rv2.1⟩, _, rv2.1, rfl, ?_, ?_⟩
      · show (t.toArray).size ≤ _
        rw [List.size_toArray]; exact hz.2
      · rw [upper_eq hz.1]
        refine Run.done k c.hc (r_str fun c hc => ?_)
        obtain ⟨x, hx, rfl⟩ := List.mem_map.mp hc
        have := of_decide_eq_true (List.all_eq_true.mp hz.1 x hx)
        unfold upC
        split <;> omega
    · exact k.elim
/-! isinstance of two -/
theorem isa_ty {sub : Nat → Nat → Bool} {α : List Addr} {h : IR.Heap} {H : Hp} (hcl : ∀ c, ClsOk W c) (hc : HCorr W α h H) {x : D} {v : V} {t0 : Ty} {k0 : Bool} (rx : Rep W.K α H x v) (e0 : isTy sub h x t0 = some k0) (ne : isErr h x = false) :
    ∃ ty, TyX W.K H v ty ∧ ∀ t u k, IsaOk W sub t u → isTy sub h x t = some k → PySem.W.kitOne W.K ty u = some k := by
  cases x with
  | non => rw [of_non rx]; exact ⟨_, .base .non, fun t u k I e => by cases e; exact I.non⟩
  | bl b => rw [of_bl rx]; exact ⟨_, .base (.bl _), fun t u k I e => by cases e; exact I.bl⟩
  | int b => rw [of_int rx]; exact ⟨_, .base (.int _), fun t u k I e => by cases e; exact I.int⟩
  | str b => rw [of_str rx]; exact ⟨_, .base (.str _), fun t u k I e => by cases e; exact I.str⟩
  | tup ds =>
    obtain ⟨p, vs, rfl, hp, r⟩ := of_tup rx
    rcases hp with (hp | ⟨o, hp⟩) | ⟨o, its, n, hp, hp2, _⟩
    · exact ⟨_, .base (.tup hp), fun t u k I e => by cases e; exact I.tup⟩
    · exact ⟨_, .fTuple hp, fun t u k I e => by cases e; exact I.tup⟩
    · exact ⟨_, .kTuple hp hp2, fun t u k I e => by cases e; exact I.tup⟩
  | frz ds =>
    obtain ⟨p, vs, rfl, hp, r⟩ := of_frz rx
    rcases hp with ⟨o, hp⟩ | hp
    · exact ⟨_, .base (.frz hp), fun t u k I e => by cases e; exact I.lst⟩
    · rcases hp (fun _ => none) with (hp | ⟨o, hp⟩) | ⟨o, its, n, hp, hp2, _⟩
      · cases hp
      · cases hp
      · exact ⟨_, .kList hp hp2, fun t u k I e => by cases e; exact I.lst⟩
  | ref j =>
    obtain ⟨a, ea, rfl⟩ := of_ref rx
    cases e1 : h[j]? with
    | none => simp [isTy, e1] at e0
    | some o =>
      have q := hc.ob _ _ a e1 ea
      cases o with
      | lst ds =>
        obtain ⟨vs, hp, r⟩ := q
        exact ⟨_, .base (.lst hp), fun t u k I e => by simp only [isTy, e1] at e; cases e; exact I.lst⟩
      | dic kvs =>
        obtain ⟨_, vs, hp, r⟩ := q
        exact ⟨_, .base (.dK hp), fun t u k I e => by simp only [isTy, e1] at e; cases e; exact I.dic⟩
      | ins cc fs =>
        obtain ⟨dx, vs, hp, r⟩ := q
        have C := hcl cc
        exact ⟨_, .base (.ins hp C.cl C.cc C.cg C.ct C.co), fun t u k I e => by simp only [isTy, e1] at e; cases e; exact I.own cc⟩
      | err cc v => simp [isErr, e1] at ne
theorem q_isa2 {p pt : Pos} {x1 : _} {sub : Nat → Nat → Bool} {s t : Ty} {us ut : Value} {cs cv : V} {sx tx : Expr} (hK : W.K = X.K) (hcl : ∀ c, ClsOk W c) (I1 : IsaOk W sub s us) (I2 : IsaOk W sub t ut) (c1 : ClsV cs us) (c2 : ClsV cv ut) (hg : Gl X "isinstance") (hm : X.mg "isinstance" = none)
    (ha : PE X a (semE W Wx fa)) (h1 : PE X sx (tC cs)) (h2 : PE X tx (tC cv)) (he : starEach [a, .Tuple [sx, tx] x1 pt] X.env = (false, eval a X.env) :: starEach [.Tuple [sx, tx] x1 pt] X.env := by rfl)
    (he2 : starEach [.Tuple [sx, tx] x1 pt] X.env = (false, eval (.Tuple [sx, tx] x1 pt) X.env) :: starEach [] X.env := by rfl) (hpl : (backTo pos (starEach [.Tuple [sx, tx] x1 pt] X.env)).any (·.1) = false := by rfl)
    (he3 : starEach [sx, tx] X.env = (false, eval sx X.env) :: starEach [tx] X.env := by rfl) (he4 : starEach [tx] X.env = (false, eval tx X.env) :: starEach [] X.env := by rfl) :
    PE X (.Call (.Name "isinstance" p) [a, .Tuple [sx, tx] x1 pt] [] pos) (semE W Wx (e_1 (o_isa2 sub s t) fa)) :=
  (pe_callB call_isiT hg hm (by rfl) (pa_cons ha (pa_cons (pe_tup (pa_cons h1 (pa_cons h2 pa_nil he4) he3)) pa_nil he2) he) (by decide) (by decide) he hpl).imp fun σ H Q q =>
    bindG (g := fun _ x h1 => o_isa2 sub s t x h1) q fun α env x h1 v H1 c rx k => by
      unfold o_isa2 at k
      obtain ⟨ne, k⟩ := Run.ite k
      obtain ⟨b1, e1, k⟩ := Run.lift k
      obtain ⟨b2, e2, k⟩ := Run.lift k
      refine ⟨by rw [sizeLine_eq]; simp, fun q hq => ?_⟩
      have le := ext_le (α := α) (W := W) (keep_upd (o := .tup [cs, cv]) hq)
      have hc2 := ext_hc (W := W) (keep_upd (o := .tup [cs, cv]) hq) c.hc
      obtain ⟨ty, x1, kk⟩ := isa_ty hcl hc2 (rx.mono le) e1 ne
      refine ⟨v, q, [cs, cv], ty, [us, ut], b1 || b2, rfl, upd_same, .cons c1 (.cons c2 .nil), hK ▸ x1, hK ▸ ?_, ?_⟩
      · have z1 := kk s us b1 I1 e1
        have z2 := kk t ut b2 I2 e2
        refine kitAny_cons z1 (fun hb => ?_) (fun hb => by rw [hb]; rfl)
        rw [hb, Bool.false_or]
        refine kitAny_cons z2 (fun hb2 => by rw [hb2]; exact kitAny_nil) (fun hb2 => by rw [hb2])
      · exact k α _ _ le hc2 r_bl
end
end IR
end

section
set_option Elab.async false
set_option linter.all false
set_option autoImplicit false
set_option maxRecDepth 100000
set_option maxHeartbeats 4000000
/-! xs[::-1] -/
namespace IR
open PySem PySem.Spec PyProof.Rows L2 HT
section
variable {prog : Program} {w : World} {A : Around} {E : Value → Shared → Prop} {s : Shared}
theorem adjust_back (n : Nat) : Builtin.Slice.sliceAdjust none none (-1) (n : Int) = ((n : Int) - 1, -1) := by
  unfold Builtin.Slice.sliceAdjust
  simp
theorem places_back (n : Nat) : Builtin.Slice.slicePlaces ((n : Int) - 1) (-1) (-1) = n := by
  unfold Builtin.Slice.slicePlaces
  rw [if_neg (by decide)]
  by_cases h : (n : Int) - 1 > -1
  · rw [if_pos h]
    simp
  · rw [if_neg h]
    simp at h ⊢
    omega
theorem pick_back (xs : Array Value) : ((List.range xs.size).filterMap fun (k : Nat) => xs[(((xs.size : Nat) : Int) - 1 + (k : Int) * (-1)).toNat]?).toArray = xs.toList.reverse.toArray := by
  have e : ∀ k ∈ List.range xs.size, xs[(((xs.size : Nat) : Int) - 1 + (k : Int) * (-1)).toNat]? = some (xs.toList.reverse.getD k .none) := fun k hk => by
    have hk := List.mem_range.mp hk
    have e1 : (((xs.size : Nat) : Int) - 1 + (k : Int) * (-1)).toNat = xs.size - 1 - k := by omega
    rw [e1]
    have l1 : xs.size - 1 - k < xs.size := by omega
    rw [Array.getElem?_eq_getElem l1]
    rw [List.getD_eq_getElem?_getD, List.getElem?_reverse (by simpa using hk)]
    simp [l1]
  have f : ∀ (l : List Nat) (g : Nat → Option Value) (d : Nat → Value), (∀ k ∈ l, g k = some (d k)) → l.filterMap g = l.map d := by
    intro l g d
    induction l with
    | nil => intro _; rfl
    | cons a r ih =>
      intro h
      rw [List.filterMap_cons, h a List.mem_cons_self, List.map_cons, ih fun k hk => h k (List.mem_cons_of_mem _ hk)]
  rw [f _ _ _ e]
  congr 1
  refine List.ext_getElem (by simp) fun i h1 h2 => ?_
  simp at h1
  simp only [List.getElem_map, List.getElem_range]
  rw [List.getD_eq_getElem?_getD, List.getElem?_eq_getElem h2]
  rfl
theorem getItem_tuple_back {t sl : Addr} {items : Array Value} {vl vu : Value} {u : Tok} {Q : Value → Shared → Prop} (ht : IsTup s.heap t items) (hs : s.heap.IsSliceOf sl vl vu (.int (-1) u)) (pl : IsPart vl none) (pu : IsPart vu none)
    (h : Q (.ref s.heap.objs.size) { s with heap := s.heap.push { cls := .type "tuple", data := .seq items.toList.reverse.toArray } }) (hsz : items.size ≤ sizeLine) : wpAny (model prog w) A (getItem (.ref t) (.ref sl)) Q E s := by
  have hsize : sizeOk (.seq items.toList.reverse.toArray) := by
    show items.toList.reverse.toArray.size ≤ sizeLine
    simpa using hsz
  obtain ⟨os, hos, hcs, hds⟩ := id hs
  have hTs : s.TypeIs (.ref sl) "slice" := ⟨os, hos, hcs⟩
  have applied : ∀ {Q : Int × Int × Nat → Shared → Prop}, Q (((items.size : Nat) : Int) - 1, -1, items.size) s → wpAny (model prog w) A.in1 (Builtin.Slice.sliceApplied (.ref sl) (pure (items.size : Int))) Q E s := fun {Q} q => by
    unfold Builtin.Slice.sliceApplied Builtin.Slice.sliceFields
    refine wpAny_bind (wpAny_bind (wpAny_field hos hds (x := vl) rfl (wpAny_bind (wpAny_field hos hds (x := vu) rfl (wpAny_bind (wpAny_field hos hds (x := .int (-1) u) rfl (wpAny_pure ?_)))))))
    refine wpAny_bind (slicePart_int ?_)
    show wpAny _ _ (if ((-1 : Int) == 0) = true then _ else _) _ _ s
    rw [if_neg (by decide)]
    refine wpAny_bind (slicePart_ pl (wpAny_bind (slicePart_ pu (wpAny_bind (wpAny_pure ?_)))))
    show wpAny _ _ (match Builtin.Slice.sliceAdjust none none (-1) (items.size : Int) with | (lo, hi) => pure (lo, (-1 : Int), Builtin.Slice.slicePlaces lo hi (-1))) _ _ s
    rw [adjust_back]
    show wpAny _ _ (pure (((items.size : Nat) : Int) - 1, (-1 : Int), Builtin.Slice.slicePlaces (((items.size : Nat) : Int) - 1) (-1) (-1))) _ _ s
    rw [places_back]
    exact wpAny_pure q
  unfold getItem
  try with_reducible refine wpAny_holding ?_
  first | refine wpAny_bind (wpAny_pure ?_) | skip
  refine wpAny_bind (wpAny_sequenceKey ht.typeIs (by decide) ?_)
  refine wpAny_bind (wpAny_callSpecial?_slot (name := Str.ofString "__getitem__") ht.typeIs PyProof.Rows.slot_tuple_getitem (wpAny_call_entry PyProof.Rows.slot_tuple_getitem ht.typeIs entry_tuple_getitem ?_ (args_tuple_getitem _ _)))
  show wpAny _ _ (Builtin.Tuple.tupleItemsOf (.ref t) >>= _) _ _ s
  refine wpAny_bind (tupleItemsOf_ ht (wpAny_bind (wpAny_typeOf hTs ?_)))
  rw [if_pos (by decide)]
  refine wpAny_bind (applied ?_)
  have hno : ¬ ((((items.size : Nat) : Int) - 1 == 0 && (-1 : Int) == 1 && items.size == items.size) = true) := by simp
  show wpAny _ _ (if (((items.size : Nat) : Int) - 1 == 0 && (-1 : Int) == 1 && items.size == items.size) = true then _ else _) _ _ s
  rw [if_neg hno, pick_back]
  first
    | exact wpAny_bind (m := Builtin.Tuple.tupleExact _) (wpAny_newObj_type (wpAny_pure ⟨_, rfl, wpAny_pure h⟩) hsize)
    | exact wpAny_bind (m := Builtin.Tuple.tupleExact _) (wpAny_newObj_type (wpAny_bind (wpAny_pure (wpAny_pure ⟨_, rfl, wpAny_pure h⟩))) hsize)
    | exact wpAny_bind (wpAny_bind (m := Builtin.Tuple.tupleExact _) (wpAny_newObj_type (wpAny_pure (wpAny_pure ⟨_, rfl, wpAny_pure h⟩)) hsize))
    | exact wpAny_bind (wpAny_bind (m := Builtin.Tuple.tupleExact _) (wpAny_newObj_type (wpAny_pure ⟨_, rfl, wpAny_pure h⟩) hsize))
end
section
variable {X : Cx} {W : Wd} {Wx : WX} {fe : SE} {e : Expr} {te : TE} {k : Nat} {p1 p2 p3 pos : Pos}
abbrev backE (k : Nat) (p1 p2 : Pos) : Expr := .UnaryOp .USub (.Constant (.int 1) k p1) p2
def tBack (K : PySem.W.Frag) (te : TE) : TE := fun σ H Q => te σ H fun x H1 => (∃ a xs, x = .ref a ∧ SqL K H1 a xs ∧ ∀ p, H1 p = none → Q (.ref p) (upd H1 p (.lst xs.reverse))) ∨ ∃ a xs, x = .ref a ∧ SqT K H1 a xs ∧ ∀ p, H1 p = none → Q (.ref p) (upd H1 p (.tup xs.reverse))
theorem pe_back (he : PE X e te) : PE X (.Subscript e (.Slice none none (some (backE k p1 p2)) p3) pos) (tBack X.K te) := by
  refine ⟨fun pins s σ H Q I h => Subscript_ (thn (he.run pins s σ H _ I h) fun v s1 ⟨x, H1, I1, r1, q1⟩ => ?_)⟩
  have step : PO X (some (backE k p1 p2)) (tPart (tUn (rU fun i => .int (-i)) (tC (.int 1)))) := po_some (pe_un un_neg pe_int)
  refine wpAny_Slice (thn (po_none.run pins s1 σ H1 (fun o H2 => o = none ∧ H2 = H1) I1 ⟨rfl, rfl⟩) fun vl s2 ⟨l, H2, I2, pl, el, e2⟩ => thn (po_none.run pins s2 σ H2 (fun o H3 => o = none ∧ H3 = H1) I2 ⟨rfl, e2⟩) fun vu s3 ⟨u, H3, I3, pu, eu, e3⟩ =>
    thn (step.run pins s3 σ H3 (fun o H4 => o = some (-1) ∧ H4 = H1) I3 ⟨1, rfl, -1, rfl, rfl, e3⟩) fun vs s4 ⟨o, H4, I4, ps, eo, e4⟩ => ?_)
  subst el eu eo e4
  have I5 : L2.Inv X pins σ H4 { s4 with heap := s4.heap.push { cls := .type "slice", data := .fields #[vl, vu, vs] } } := I4.kept (t' := s4.toks) fun b ob q => Heap.get?_push_of_some _ q
  have back : ∃ t, vs = .int (-1) t := by cases ps; exact ⟨_, rfl⟩
  obtain ⟨t, rfl⟩ := back
  rcases q1 with ⟨a, xs, ex, hx, q⟩ | ⟨a, xs, ex, hx, q⟩
  · subst ex
    cases r1
    obtain ⟨its, r, ht, hz⟩ := I5.list hx
    have hlen := r.length
    show wpAny (model X.prog X.w) X.A (subscriptTail e (.Slice none none (some (backE k p1 p2)) p3) (.ref a) (.ref s4.heap.objs.size)) (EP X pins σ Q) X.xe _
    refine tail_any (ops := [.ref a, .ref s4.heap.objs.size]) ht.isList.typeIs PySem.slot_list_getitem.lookup (wpAny_getItem_list_slice ht.isList (Heap.IsSliceOf.new _ vl vu (.int (-1) t)) pl pu (.int (-1) t) (by decide) ?_ (by rw [List.size_toArray]; omega)) (by with_unfolding_all rfl)
    rw [PySem.W.krv_pick]
    exact ⟨.ref _, _, I5.laid (t' := s4.toks) (o := .lst xs.reverse) (fun b ob q => Heap.get?_push_of_some _ q) (Nat.le_refl _) ⟨by rw [List.length_reverse]; exact hz, _, 0, r.reverse, Heap.get?_push_size _ rfl⟩, rfl, q _ (I5.hok.fresh (Nat.le_refl _))⟩
  · subst ex
    cases r1
    obtain ⟨its, r, ht, hz⟩ := I5.tuple hx
    have hlen := r.length
    show wpAny (model X.prog X.w) X.A (subscriptTail e (.Slice none none (some (backE k p1 p2)) p3) (.ref a) (.ref s4.heap.objs.size)) (EP X pins σ Q) X.xe _
    refine tail_any (ops := [.ref a, .ref s4.heap.objs.size]) ht.typeIs PyProof.Rows.slot_tuple_getitem.lookup (getItem_tuple_back ht (Heap.IsSliceOf.new _ vl vu (.int (-1) t)) pl pu ?_ (by rw [List.size_toArray]; omega)) (by with_unfolding_all rfl)
    exact ⟨.ref _, _, I5.laid (t' := s4.toks) (o := .tup xs.reverse) (fun b ob q => Heap.get?_push_of_some _ q) (Nat.le_refl _) ⟨by rw [List.length_reverse]; exact hz, _, r.reverse, IsTup.new _ _⟩, rfl, q _ (I5.hok.fresh (Nat.le_refl _))⟩
theorem Reps.reverse {α : List Addr} {H : Hp} : ∀ {ds : List D} {vs : List V}, Reps W.K α H ds vs → Reps W.K α H ds.reverse vs.reverse
  | [], vs, h => by simp only [Reps] at h; subst h; simp [Reps]
  | d :: ds, vs, h => by
    simp only [Reps] at h
    obtain ⟨v, r, rfl, rv, rr⟩ := h
    rw [List.reverse_cons, List.reverse_cons]
    exact (Reps.reverse rr).append (Reps.one rv)
theorem q_back (hK : W.K = X.K) (he : PE X e (semE W Wx fe)) : PE X (.Subscript e (.Slice none none (some (backE k p1 p2)) p3) pos) (semE W Wx (e_1 o_rev fe)) :=
  (pe_back he).imp fun σ H Q q => bindG (g := fun _ x h1 => o_rev x h1) q fun α env x h1 v H1 c rx kk => by
    unfold o_rev at kk
    split at kk
    · obtain ⟨p, vs, rfl, hp, r⟩ := of_tup rx
      refine .inr ⟨p, vs, rfl, hK ▸ hp, fun q hq => ?_⟩
      obtain ⟨le, hc, rr⟩ := new_tup hq c.hc (Reps.reverse r)
      exact kk α _ _ le hc rr
    · split at kk
      · rename_i e1
        obtain ⟨p, us, ep, rfl, hp, r⟩ := lst_at c.hc rx e1
        refine .inl ⟨p, us, rfl, SqL.of hp, fun q hq => ?_⟩
        obtain ⟨le, hc, rr⟩ := new_lst hq c.hc (Reps.reverse r)
        exact kk _ _ _ le hc rr
      · exact kk.elim
    · exact kk.elim
end
end IR
end

section
set_option Elab.async false
set_option linter.all false
set_option autoImplicit false
set_option maxRecDepth 100000
set_option maxHeartbeats 4000000
/-! dicts whose keys are ints and texts -/
namespace IR
open PySem PySem.Spec PyProof.Rows L2
section
variable {W : Wd} {α : List Addr} {H : Hp}
/-- a table of ours and one of the machine -/
def RK (W : Wd) (α : List Addr) (H : Hp) : List (KY × D) → List (Key × V) → Prop
  | [], zs => zs = []
  | (k, d) :: r, zs => ∃ v zr, zs = (kyK k, v) :: zr ∧ okKY k ∧ Rep W.K α H d v ∧ RK W α H r zr
theorem RK.of : ∀ {kvs : List (KY × D)} {vs : List V}, (∀ p ∈ kvs, okKY p.1) → Reps W.K α H (kvs.map (·.2)) vs → RK W α H kvs ((kvs.map fun p => kyK p.1).zip vs)
  | [], vs, _, r => rfl
  | (k, d) :: kvs, vs, ok, r => by
    simp only [List.map_cons, Reps] at r
    obtain ⟨v, us, rfl, q, t⟩ := r
    exact ⟨v, _, rfl, ok _ List.mem_cons_self, q, RK.of (fun p hp => ok p (List.mem_cons_of_mem _ hp)) t⟩
theorem RK.to : ∀ {kvs : List (KY × D)} {zs : List (Key × V)}, RK W α H kvs zs → (∀ p ∈ kvs, okKY p.1) ∧ ∃ vs, zs = (kvs.map fun p => kyK p.1).zip vs ∧ Reps W.K α H (kvs.map (·.2)) vs
  | [], zs, r => by
    have e : zs = [] := r
    subst e
    exact ⟨fun p hp => (List.not_mem_nil hp).elim, [], rfl, by simp [Reps]⟩
  | (k, d) :: kvs, zs, r => by
    obtain ⟨v, zr, rfl, ok, q, t⟩ := r
    obtain ⟨oks, vs, rfl, rr⟩ := RK.to t
    refine ⟨fun p hp => ?_, v :: vs, rfl, by simp only [List.map_cons, Reps]; exact ⟨v, vs, rfl, q, rr⟩⟩
    rcases List.mem_cons.mp hp with e | e
    · subst e; exact ok
    · exact oks p e
theorem RK.mono {α' : List Addr} {H' : Hp} (le : Le W.K α H α' H') : ∀ {kvs : List (KY × D)} {zs : List (Key × V)}, RK W α H kvs zs → RK W α' H' kvs zs
  | [], zs, r => r
  | (k, d) :: kvs, zs, r => by
    obtain ⟨v, zr, rfl, ok, q, t⟩ := r
    exact ⟨v, zr, rfl, ok, q.mono le, t.mono le⟩
theorem RK.length : ∀ {kvs : List (KY × D)} {zs : List (Key × V)}, RK W α H kvs zs → kvs.length = zs.length
  | [], zs, r => by
    have e : zs = [] := r
    subst e; rfl
  | (k, d) :: kvs, zs, r => by
    obtain ⟨v, zr, rfl, ok, q, t⟩ := r
    simp [t.length]
theorem toStr_inj' {s t : Txt} (e : toStr s = toStr t) : s = t := by
  have := congrArg (fun z : Str => z.cps.toList) e
  simpa using this
theorem kyK_inj {k j : KY} : kyK k = kyK j ↔ k = j := by
  constructor
  · intro e
    cases k <;> cases j
    · injection e with e; rw [e]
    · cases e
    · cases e
    · injection e with e; rw [toStr_inj' e]
  · rintro rfl; rfl
/-- d[k] -/
theorem RK.val (k : KY) : ∀ {kvs : List (KY × D)} {zs : List (Key × V)}, RK W α H kvs zs → (getK kvs k = none ∧ valV zs (kyK k) = none) ∨ ∃ d v, getK kvs k = some d ∧ valV zs (kyK k) = some v ∧ Rep W.K α H d v
  | [], zs, r => by
    have e : zs = [] := r
    subst e
    exact .inl ⟨rfl, rfl⟩
  | (j, d) :: kvs, zs, r => by
    obtain ⟨v, zr, rfl, ok, q, t⟩ := r
    by_cases e : j = k
    · subst e
      exact .inr ⟨d, v, by simp [getK], valV_pos rfl, q⟩
    · have e2 : ¬ kyK j = kyK k := fun z => e (kyK_inj.mp z)
      have g : getK ((j, d) :: kvs) k = getK kvs k := by simp [getK, List.find?_cons, e]
      rw [g, valV_neg e2]
      exact RK.val k t
theorem RK.any (k : KY) : ∀ {kvs : List (KY × D)} {zs : List (Key × V)}, RK W α H kvs zs → (kvs.any fun p => decide (p.1 = k)) = zs.any fun p => decide (p.1 = kyK k)
  | [], zs, r => by
    have e : zs = [] := r
    subst e; rfl
  | (j, d) :: kvs, zs, r => by
    obtain ⟨v, zr, rfl, ok, q, t⟩ := r
    have e : decide (j = k) = decide (kyK j = kyK k) := by
      by_cases e : j = k
      · subst e; simp
      · rw [decide_eq_false e, decide_eq_false fun z => e (kyK_inj.mp z)]
    simp only [List.any_cons, RK.any k t]
    rw [e]
theorem RK.repl {k : KY} {d : D} {v : V} (rd : Rep W.K α H d v) : ∀ {kvs : List (KY × D)} {zs : List (Key × V)}, RK W α H kvs zs →
    RK W α H (kvs.map fun p => if p.1 = k then (p.1, d) else p) (zs.map fun p => if p.1 = kyK k then (p.1, v) else p)
  | [], zs, r => by
    have e : zs = [] := r
    subst e; rfl
  | (j, c) :: kvs, zs, r => by
    obtain ⟨u, zr, rfl, ok, q, t⟩ := r
    by_cases e : j = k
    · subst e
      simp only [List.map_cons, if_true]
      exact ⟨v, _, rfl, ok, rd, RK.repl rd t⟩
    · have e2 : ¬ kyK j = kyK k := fun z => e (kyK_inj.mp z)
      simp only [List.map_cons, if_neg e, if_neg e2]
      exact ⟨u, _, rfl, ok, q, RK.repl rd t⟩
theorem RK.snoc {k : KY} {d : D} {v : V} (ok : okKY k) (rd : Rep W.K α H d v) : ∀ {kvs : List (KY × D)} {zs : List (Key × V)}, RK W α H kvs zs → RK W α H (kvs ++ [(k, d)]) (zs ++ [(kyK k, v)])
  | [], zs, r => by
    have e : zs = [] := r
    subst e
    exact ⟨v, [], rfl, ok, rd, rfl⟩
  | (j, c) :: kvs, zs, r => by
    obtain ⟨u, zr, rfl, o2, q, t⟩ := r
    exact ⟨u, _, rfl, o2, q, RK.snoc ok rd t⟩
theorem RK.put {k : KY} {d : D} {v : V} (ok : okKY k) (rd : Rep W.K α H d v) {kvs : List (KY × D)} {zs : List (Key × V)} (r : RK W α H kvs zs) : RK W α H (putKD kvs k d) (putK zs (kyK k) v) := by
  unfold putKD putK
  rw [r.any k]
  by_cases h : (zs.any fun p => decide (p.1 = kyK k)) = true
  · rw [if_pos h, if_pos h]; exact r.repl rd
  · rw [if_neg h, if_neg h]; exact r.snoc ok rd
theorem RK.fold : ∀ {rs acc : List (KY × D)} {zs zacc : List (Key × V)}, RK W α H rs zs → RK W α H acc zacc → RK W α H (rs.foldl (fun acc p => putKD acc p.1 p.2) acc) (mergeK zacc zs)
  | [], acc, zs, zacc, r, a => by
    have e : zs = [] := r
    subst e; exact a
  | (k, d) :: rs, acc, zs, zacc, r, a => by
    obtain ⟨v, zr, rfl, ok, q, t⟩ := r
    exact RK.fold (rs := rs) (zs := zr) t (a.put ok q)
/-- keys -/
theorem key_rep {y : D} {w : V} {k : KY} (r : Rep W.K α H y w) (e : keyOf y = some k) : w = kV (kyK k) ∧ okKY k := by
  unfold keyOf at e
  split at e
  · cases e; exact ⟨of_int r, trivial⟩
  · cases e; exact ⟨of_str r, ok_str r⟩
  · cases e
def RPs (W : Wd) (α : List Addr) (H : Hp) (xs : List (D × D)) (ys : List (V × V)) : Prop := Reps W.K α H (xs.map (·.1)) (ys.map (·.1)) ∧ Reps W.K α H (xs.map (·.2)) (ys.map (·.2))
theorem keyed_rep : ∀ {xs : List (D × D)} {ys : List (V × V)} {rs : List (KY × D)}, RPs W α H xs ys → keyed xs = some rs → ∃ zs : List (Key × V), ys = zs.map (fun kv => (kV kv.1, kv.2)) ∧ RK W α H rs zs
  | [], ys, rs, r, e => by
    simp only [keyed] at e; cases e
    have e2 : ys.map (·.1) = [] := by simpa [RPs, Reps] using r.1
    have e3 := List.map_eq_nil_iff.mp e2
    subst e3
    exact ⟨[], rfl, rfl⟩
  | (x, y) :: xs, ys, rs, r, e => by
    obtain ⟨r1, r2⟩ := r
    simp only [List.map_cons, Reps] at r1 r2
    obtain ⟨v, vr, e1, q1, t1⟩ := r1
    obtain ⟨w, wr, e2, q2, t2⟩ := r2
    cases ys with
    | nil => cases e1
    | cons p ys =>
      obtain ⟨p1, p2⟩ := p
      simp only [List.map_cons, List.cons.injEq] at e1 e2
      obtain ⟨rfl, rfl⟩ := e1
      obtain ⟨rfl, rfl⟩ := e2
      simp only [keyed] at e
      split at e
      · rename_i k ps hk hp
        cases e
        obtain ⟨zs, rfl, t⟩ := keyed_rep ⟨t1, t2⟩ hp
        obtain ⟨rfl, ok⟩ := key_rep q1 hk
        exact ⟨(kyK k, _) :: zs, rfl, _, zs, rfl, ok, q2, t⟩
      · cases e
end
section
variable {X : Cx} {W : Wd} {Wx : WX} {pos apos : Pos} {fd fi fv : SE} {o i e value : Expr} {α : List Addr} {h : IR.Heap} {H : Hp} {σ : L2.St} {Q : VK}
theorem dic_at (hc : HCorr W α h H) {k : Nat} {v : V} {kvs : List (KY × D)} (r : Rep W.K α H (.ref k) v) (e : h[k]? = some (.dic kvs)) : ∃ a zs, α[k]? = some a ∧ v = .ref a ∧ H a = some (.dK zs) ∧ RK W α H kvs zs := by
  obtain ⟨a, ea, rfl⟩ := of_ref r
  obtain ⟨ok, vs, hp, rr⟩ := hc.ob _ _ a e ea
  exact ⟨a, _, ea, rfl, hp, RK.of ok rr⟩
theorem dicRep {a : Addr} {kvs : List (KY × D)} {zs : List (Key × V)} (r : RK W α H kvs zs) (e : H a = some (.dK zs)) : ObjRep W α H a (.dic kvs) := by
  obtain ⟨ok, vs, rfl, rr⟩ := r.to
  exact ⟨ok, vs, e, rr⟩
theorem write_dic {k : Nat} {p : Addr} {ds ds' : List (KY × D)} {zs : List (Key × V)} (hc : HCorr W α h H) (e : h[k]? = some (.dic ds)) (ea : α[k]? = some p) (r : RK W α H ds' zs) :
    Le W.K α H α (upd H p (.dK zs)) ∧ HCorr W α (h.set k (.dic ds')) (upd H p (.dK zs)) :=
  write_obj (lo' := .dic ds') hc e ea fun l e => dicRep (r.mono l) e
theorem q_dic0 : PE X (.Dict [] [] pos) (semE W Wx e_dic0) := (pe_dnewK).imp fun σ H Q q => by
  obtain ⟨α, env, h, c, k⟩ := q
  intro p hp
  obtain ⟨le, hc, rr⟩ := new_obj (lo := .dic []) hp (keep_upd hp) c.hc ⟨by simp, [], upd_same, by simp [Reps]⟩
  exact k _ _ _ le hc rr
theorem pairs_sound : ∀ (ps : List (SE × SE)) {σ : L2.St} {H : Hp} {Q : List (V × V) → Hp → Prop}, semG W (RPs W) Wx (pairsF ps) σ H Q → tPairs (ps.map fun p => (semE W Wx p.1, semE W Wx p.2)) σ H Q
  | [], σ, H, Q, q => by
    obtain ⟨α, env, h, c, k⟩ := q
    exact Run.done (v := ([] : List (V × V))) k c.hc ⟨by simp [Reps], by simp [Reps]⟩
  | (a, b) :: r, σ, H, Q, q =>
    bindG (g := fun env x h1 => (b env h1).bind fun y h2 => (pairsF r env h2).bind fun ps h3 => Res.ok ((x, y) :: ps) h3) q fun α env x h1 v H1 c rx k =>
      bindR (g := fun y h2 => (pairsF r env h2).bind fun ps h3 => Res.ok ((x, y) :: ps) h3) c k fun α2 y h2 w H2 le c2 ry k2 =>
        pairs_sound r (bindR (g := fun ps h3 => Res.ok ((x, y) :: ps) h3) c2 k2 fun α3 ps h3 us H3 le2 c3 rps k3 =>
          Run.done (v := (v, w) :: us) k3 c3.hc ⟨by simp only [List.map_cons, Reps]; exact ⟨v, _, rfl, (rx.mono le).mono le2, rps.1⟩, by simp only [List.map_cons, Reps]; exact ⟨w, _, rfl, ry.mono le2, rps.2⟩⟩)
theorem q_disp {keys : List (Option Expr)} {values : List Expr} {ps : List (SE × SE)} (hp : PPs X pos keys values (ps.map fun p => (semE W Wx p.1, semE W Wx p.2))) (hall : keys.all (·.isSome) = true := by rfl) (hl : keys.length = values.length := by rfl) (h0 : keys ≠ [] := by simp)
    (h15 : keys.length ≤ 15 := by decide) : PE X (.Dict keys values pos) (semE W Wx (e_disp ps)) := (pe_disp hp hall hl h0 h15).imp fun σ H Q q => by
  obtain ⟨α, env, h, c, k⟩ := q
  intro p hp
  obtain ⟨le, hc, rr⟩ := new_obj (lo := .dic []) hp (keep_upd hp) c.hc ⟨by simp, [], upd_same, by simp [Reps]⟩
  refine pairs_sound ps (bindR (g := fun kvs h2 => match h2[h.length]?, keyed kvs with
    | some (.dic []), some rs => if rs.length ≤ 15 then Res.ok (D.ref h.length) (h2.set h.length (.dic (rs.foldl (fun acc p => putKD acc p.1 p.2) []))) else .bad
    | _, _ => .bad) (c.later le hc) (Run.later k le) fun α2 kvs h2 us H2 le2 c2 rk k2 => ?_)
  split at k2
  · rename_i rs e1 e2
    obtain ⟨hz, k2⟩ := Run.ite k2
    have ea : α2[h.length]? = some p := by
      obtain ⟨g, eg⟩ := le2.pre
      rw [eg, ← c.hc.len, List.getElem?_append_left (by simp), List.getElem?_append_right (Nat.le_refl _)]
      simp
    obtain ⟨_, vs, hp2, rr2⟩ := c2.hc.ob _ _ p e1 ea
    have rr3 : vs = [] := by simpa [Reps] using rr2
    subst rr3
    obtain ⟨zs, rfl, t⟩ := keyed_rep rk e2
    obtain ⟨lw, hw⟩ := write_dic c2.hc e1 ea (RK.fold t (show RK W α2 H2 [] [] from rfl))
    refine ⟨hp2, zs, rfl, by rw [← t.length]; exact hz, ?_⟩
    exact k2 _ _ _ lw hw (by simp only [RV, Rep]; exact ⟨p, ea, rfl⟩)
  · exact k2.elim
abbrev rDGet (K : PySem.W.Frag) : R2 := fun x y H Q => ∃ a v, x = .ref a ∧ DGet H a y (some v) ∧ Q v H
theorem q_dget (hu : X.A.units + 1 < cLine) (ho : PE X o (semE W Wx fd)) (hi : PE X i (semE W Wx fi)) (hs : NoSl i := by intro _ _; rfl) : PE X (.Subscript o i pos) (semE W Wx (e_2 o_dget fd fi)) :=
  (pe_dget hu ho hi hs).imp fun σ H Q q => bindG (g := fun env x h1 => (fi env h1).bind fun y h2 => o_dget x y h2) q fun α env x h1 v H1 c rx k =>
    bindR (g := fun y h2 => o_dget x y h2) c k fun α2 y h2 w H2 le c2 ry k2 => by
      unfold o_dget at k2
      split at k2
      · split at k2
        · rename_i e1
          obtain ⟨d, e2, k2⟩ := Run.lift1 k2
          obtain ⟨a, zs, ea, rfl, hp, r⟩ := dic_at c2.hc (rx.mono le) e1
          cases ek : keyOf y with
          | none => rw [ek] at e2; cases e2
          | some kk =>
            rw [ek] at e2
            obtain ⟨rfl, ok⟩ := key_rep ry ek
            rcases r.val kk with ⟨g1, g2⟩ | ⟨d2, v2, g1, g2, g3⟩
            · rw [show getK _ kk = some d from e2] at g1; cases g1
            · rw [show getK _ kk = some d from e2] at g1; cases g1
              refine ⟨a, v2, rfl, ?_, Run.done k2 c2.hc g3⟩
              rw [← g2]
              exact DGet.k hp
        · exact k2.elim
      · exact k2.elim
theorem din_run (q : semE W Wx (e_2 o_din fi fd) σ H Q) : tDIn (semE W Wx fi) (semE W Wx fd) σ H Q :=
  bindG (g := fun env y h1 => (fd env h1).bind fun x h2 => o_din y x h2) q fun α env y h1 w H1 c ry k =>
    bindR (g := fun x h2 => o_din y x h2) c k fun α2 x h2 v H2 le c2 rx k2 => by
      unfold o_din at k2
      split at k2
      · split at k2
        · rename_i e1
          split at k2
          · rename_i kk ek
            obtain ⟨a, zs, ea, rfl, hp, r⟩ := dic_at c2.hc rx e1
            obtain ⟨rfl, ok⟩ := key_rep (ry.mono le) ek
            refine ⟨a, _, rfl, DGet.k hp, ?_⟩
            rcases r.val kk with ⟨g1, g2⟩ | ⟨d2, v2, g1, g2, g3⟩
            · rw [g1] at k2; rw [g2]; exact Run.done k2 c2.hc r_bl
            · rw [g1] at k2; rw [g2]; exact Run.done k2 c2.hc r_bl
          · exact k2.elim
        · exact k2.elim
      · exact k2.elim
end
end IR
end

section
set_option Elab.async false
set_option linter.all false
set_option autoImplicit false
set_option maxRecDepth 100000
set_option maxHeartbeats 4000000
/-! an own == beside anything -/
namespace IR
open PySem PySem.Spec PyProof.Rows L2
section
variable {X : Cx} {W : Wd} {Wx : WX} {fa fb : SE} {a b : Expr} {pos : Pos} {α : List Addr} {h : IR.Heap} {H : Hp} {σ : L2.St} {pins : List (Addr × Obj)} {s : Shared} {k : Nat} {f : Addr} {fd : FuncData} {ps : List Str}
theorem looks_ref {M : Model} {hp : PySem.Heap} {p : Addr} {o : Obj} {T : Value} (ho : hp.get? p = some o) (hc : o.cls = T) : PySem.W.Looks M hp (typeOf (.ref p)) T := hc ▸ (PySem.W.Looks.ld ho).andThen .now
theorem looks_plain (hK : W.K = X.K) (hc : HCorr W α h H) {y : D} {w : V} {u : Value} {T : String} (rx : Rep W.K α H y w) (I : L2.Inv X pins σ H s) (ry : RelV w u) (e : plainTy h y = some T) :
    PySem.W.Looks (model X.prog X.w) s.heap (typeOf u) (.type T) ∧ T ∈ (["NoneType", "bool", "int", "str", "tuple", "list", "dict"] : List String) := by
  cases y with
  | non =>
    rw [of_non rx] at ry
    cases (show u = Value.none from ry); cases e
    exact ⟨PySem.W.Looks.of_pure rfl, by simp⟩
  | bl z =>
    rw [of_bl rx] at ry
    cases (show u = Value.bool z from ry); cases e
    exact ⟨PySem.W.Looks.of_pure rfl, by simp⟩
  | int z =>
    rw [of_int rx] at ry
    obtain ⟨t, rfl⟩ := (show ∃ t, u = Value.int z t from ry); cases e
    exact ⟨PySem.W.Looks.of_pure rfl, by simp⟩
  | str z =>
    rw [of_str rx] at ry
    obtain ⟨t, rfl⟩ := (show ∃ t, u = Value.str _ t from ry); cases e
    exact ⟨PySem.W.Looks.of_pure rfl, by simp⟩
  | tup ds =>
    obtain ⟨p, vs, rfl, hp, r⟩ := of_tup rx
    cases (show u = Value.ref p from ry); cases e
    obtain ⟨its, rv, ⟨o, ho, hcl, n, hd⟩, _⟩ := I.tuple (hK ▸ hp)
    exact ⟨looks_ref ho hcl, by simp⟩
  | frz ds =>
    obtain ⟨p, vs, rfl, hp, r⟩ := of_frz rx
    cases (show u = Value.ref p from ry); cases e
    obtain ⟨its, rv, ⟨o, n, ho, hcl, _, hd⟩, _⟩ := I.list (hK ▸ hp.sql)
    exact ⟨looks_ref ho hcl, by simp⟩
  | ref j =>
    simp only [plainTy] at e
    split at e
    · rename_i ds e1
      cases e
      obtain ⟨p, us, ep, rfl, hp, r⟩ := lst_at hc rx e1
      cases (show u = Value.ref p from ry)
      obtain ⟨its, rv, ⟨o, n, ho, hcl, _, hd⟩, _⟩ := I.list (SqL.of hp)
      exact ⟨looks_ref ho hcl, by simp⟩
    · rename_i ds e1
      cases e
      obtain ⟨p, zs, ep, rfl, hp, r⟩ := dic_at hc rx e1
      cases (show u = Value.ref p from ry)
      obtain ⟨_, hd, vs, rel, o, es, ep, ho, hx, _⟩ := dk_of I.hok hp
      exact ⟨looks_ref ho hx.1, by simp⟩
    · cases e
theorem q_cmpA {op : CmpOp} {c fn : Nat} {κ : Kap} (hop : ∀ a b, compareOp op a b = richCompare op a b) (hK : W.K = X.K) (O : CmpF X.K (W.cl c) f (cmpInfo op).2.1) (F : FnG X.prog X.w X.K X.mg X.base k f fd ps (spG W (κ.fn fn))) (bd : Binds X.K fd ps [])
    (tk : Takes X Wx) (hr : Room k X.A) (hn : NoG X.A) (ha : PE X a (semE W Wx fa)) (hb : PE X b (semE W Wx fb)) (hm : behindInMarks op b = false) : PE X (.Compare a [op] [b] pos) (semE W Wx (e_2 (o_cmpA κ c fn) fa fb)) :=
  ⟨fun pins s σ H Q I hq => wpAny_Compare1 (bin ha hb I (sem_2V hq) fun v u s2 x y H2 I2 rx ry q => by
    obtain ⟨α, h, dx, dy, hc, r1, r2, q⟩ := q
    unfold o_cmpA at q
    split at q
    · rename_i e
      obtain ⟨p, ox, od, rfl, rfl, J⟩ := ins_at hc r1 e.1 I2 rx
      obtain ⟨m, hF⟩ := I2.fr
      have go : ∀ {T : Value}, PySem.W.Looks (model X.prog X.w) s2.heap (typeOf u) T → PySem.W.notFirst X.K (W.cl c) T = true → wpAny (model X.prog X.w) X.A (compareOp op (.ref p) u) (fun u s' => ∃ v H', L2.Inv X pins σ H' s' ∧ RelV v u ∧ Q v H') X.xe s2 := fun L N => by
        rw [hop]
        refine PySem.W.cmp_K hr.units0 hF I2.ok.mod.kin J L N O.at_ O.fn ?_
        exact wpAny_mono (run_g (zs := [V.ref p, y]) F hr hn bd (passAt tk σ) I2 (.cons rfl (.cons ry .nil)) ⟨α, [dx, dy], h, hc, by simp only [Reps]; exact ⟨_, _, rfl, r1, _, _, rfl, r2, rfl⟩, q⟩) (fun _ _ z => back_ep z) fun _ _ z => z
      rcases e.2 with e2 | e2
      · obtain ⟨p2, oy, oe, rfl, rfl, J2⟩ := ins_at hc r2 e2 I2 ry
        exact go J2.type notFirst_self
      · obtain ⟨T, e3⟩ := Option.isSome_iff_exists.mp e2
        obtain ⟨L, m3⟩ := looks_plain hK hc r2 I2 ry e3
        exact go L (O.self T m3)
    · exact q.elim) hm⟩
end
end IR
end

section
set_option Elab.async false
set_option linter.all false
set_option autoImplicit false
set_option maxRecDepth 100000
set_option maxHeartbeats 4000000
/-! a def by its body in the small semantics; all of them by levels -/
namespace IR
open PySem PySem.Spec PyProof.Rows L2
section
variable {P : Program} {w : World} {K : PySem.W.Frag} {mg : Str → Option Value} {base : PySem.Heap} {W : Wd}
/-- the errors of a def, as its caller takes them -/
abbrev wxOf (E : XK) : WX := fun c d _ H => E c d H
theorem start_corr {N : List Str} {α : List Addr} {h : IR.Heap} {H : Hp} {ds : List D} {zs : List V} {n : Nat} (hc : HCorr W α h H) (r : Reps W.K α H ds zs) (hn : N.length = n) : Corr W α (ds.map some ++ List.replicate (n - ds.length) none) h (L2.start N zs) H := by
  subst hn
  refine ⟨hc, by simp [L2.start, r.length], fun i d e => ?_⟩
  by_cases hi : i < ds.length
  · rw [List.getElem?_append_left (by simpa using hi), List.getElem?_map] at e
    cases hd : ds[i]? with
    | none => rw [hd] at e; cases e
    | some x =>
      rw [hd] at e
      cases e
      obtain ⟨v, hv, rv⟩ := r.get hd
      refine ⟨v, ?_, rv⟩
      unfold L2.start
      rw [List.getElem?_append_left (by rw [List.length_map, ← r.length]; exact hi), List.getElem?_map, hv]
      rfl
  · rw [List.getElem?_append_right (by simpa using hi)] at e
    obtain ⟨h1, h2⟩ := List.getElem?_eq_some_iff.mp e
    simp at h2
theorem run_flow {E : XK} {α : List Addr} {H : Hp} {Q : VK} {fl : IR.Flow} (q : Run W (RV W) E α H Q (match fl with
      | .rt v h' => .ok v h'
      | .nx _ h' => .ok .non h'
      | .exc c v _ h' => .exc c v h'
      | _ => .bad)) : FlowRun W (wxOf E) { nx := fun _ H' => Q .non H', rt := Q, bk := fun _ _ => False, ct := fun _ _ => False } α H fl := by
  cases fl with
  | nx env h' => exact fun α' σ' H' le c => q α' H' .non le c.hc r_non
  | rt v h' => exact q
  | bk env h' => exact q.elim
  | ct env h' => exact q.elim
  | exc c v env h' => exact fun α' σ' H' dx u le c r e => q α' H' dx u le c.hc r e
  | bad => exact q
theorem takes_def {N : List Str} {qual : Str} {scope : Scope} {f : Addr} {cd : Value} {A : Around} {outer : List PySem.Env} {s : Shared} {H : Hp} {E : XK} : Takes (cxOf (L2.CX P w) P w K mg base N qual scope f cd A outer s H E) (wxOf E) := takes_of rfl rfl rfl rfl
theorem passes_def {N : List Str} {qual : Str} {scope : Scope} {f : Addr} {cd : Value} {A : Around} {outer : List PySem.Env} {s : Shared} {H : Hp} {E : XK} : PassesOwn (model P w) (A.deeper (envOfC qual scope s.heap.objs.size f cd)) (envOfC qual scope s.heap.objs.size f cd) (cxOf (L2.CX P w) P w K mg base N qual scope f cd A outer s H E).xe := passes_of (X := cxOf (L2.CX P w) P w K mg base N qual scope f cd A outer s H E) rfl
theorem takes_none {X : Cx} : Takes X W0 := fun u s' ⟨_, _, _, _, _, _, _, _, _, _, _, _, _, _, _, _, z⟩ => z.elim
/-- THE RULE of a def -/
theorem fn_def {k : Nat} {x qual : Str} {pr : Arguments} {bd : List Stmt} {sc : Scope} {f : Addr} {fd : FuncData} {N ps : List Str} {κ : Kap} {d : Def} (F : FunD K x qual pr bd sc [] [] f fd) (S : FnScope N ps sc) (hn : N.length = d.n := by rfl) (hp : ps.length = d.np := by rfl)
    (hb : ∀ (cdv : Value) (A : Around) (outer : List PySem.Env) (s : Shared) (H : Hp) (E : XK), Room k (cxOf (L2.CX P w) P w K mg base N qual sc f cdv A outer s H E).A → NoG (cxOf (L2.CX P w) P w K mg base N qual sc f cdv A outer s H E).A →
      PSs (cxOf (L2.CX P w) P w K mg base N qual sc f cdv A outer s H E) bd (semS W (wxOf E) (d.body κ))) :
    FnG P w K mg base (k + 1) f fd ps (spG W (runDef κ d)) := by
  have len : ∀ zs H Q E, spG W (runDef κ d) zs H Q E → zs.length = ps.length := by
    rintro zs H Q E ⟨α, ds, h, hc, r, q⟩
    unfold runDef at q
    obtain ⟨e, _⟩ := Run.ite q
    rw [← r.length, e, hp]
  obtain ⟨oc, od, dV, kV, doc, pm, an, cdv, ct, osl, rfl, lk, hcd, _, _⟩ := F.ex
  refine fnG_of lk hcd S len fun A outer s H zs Q E hr hg hsp => ⟨_, hb cdv A outer s H E hr (deeper_g hg), ?_⟩
  obtain ⟨α, ds, h, hc, r, q⟩ := hsp
  unfold runDef at q
  obtain ⟨e, q⟩ := Run.ite q
  have q2 := Run.gc hc q
  refine ⟨α, _, h, start_corr hc r hn, ?_⟩
  rw [e] at *
  have q3 := run_flow q2
  rw [← e] at q3 ⊢
  rw [e] at q3 ⊢
  exact q3
/-- all of them, by levels -/
theorem levels {ad : Nat → Addr} {fdt : Nat → FuncData} {pt : Nat → List Str} (Pr : Prog)
    (step : ∀ n i d, Pr.defs i = some d → (∀ i, FnG P w K mg base (n + 3) (ad i) (fdt i) (pt i) (spG W (callF Pr (n + 3) i))) → (∀ i, FnG P w K mg base (n + 2) (ad i) (fdt i) (pt i) (spG W (callF Pr (n + 2) i))) →
      (∀ i, FnG P w K mg base n (ad i) (fdt i) (pt i) (spG W (callF Pr n i))) → FnG P w K mg base (n + 4) (ad i) (fdt i) (pt i) (spG W (runDef (kap Pr n) d))) (n : Nat) : ∀ i, FnG P w K mg base n (ad i) (fdt i) (pt i) (spG W (callF Pr n i)) := by
  induction n using Nat.strongRecOn with
  | _ n ih =>
    intro i
    have bad : callF Pr n i = (fun _ _ => .bad) → FnG P w K mg base n (ad i) (fdt i) (pt i) (spG W (callF Pr n i)) := fun e => FnG.none fun zs H Q E ⟨α, ds, h, hc, r, q⟩ => by
      rw [e] at q
      exact q
    match n, ih, bad with
    | 0, _, bad => exact bad (by funext a h; rfl)
    | 1, _, bad => exact bad (by funext a h; rfl)
    | 2, _, bad => exact bad (by funext a h; rfl)
    | 3, _, bad => exact bad (by funext a h; rfl)
    | m + 4, ih, bad =>
      cases e : Pr.defs i with
      | none => exact bad (by funext a h; simp only [callF, e])
      | some d =>
        have e2 : callF Pr (m + 4) i = runDef (kap Pr m) d := by funext a h; exact callF_succ _ _ _ _ _ _ e
        rw [e2]
        exact step m i d e (ih (m + 3) (by omega)) (ih (m + 2) (by omega)) (ih m (by omega))
end
end IR
end

section
set_option Elab.async false
set_option linter.all false
set_option autoImplicit false
set_option maxRecDepth 100000
set_option maxHeartbeats 4000000
/-! raise, try, errors as values: the rules of the small semantics -/
namespace IR
open PySem PySem.Spec PyProof.Rows L2
/-- what the head tells of a class of errors: its base's __init__ -/
structure MkE (P : Program) (w : World) (K : PySem.W.Frag) (mg : Str → Option Value) (base : PySem.Heap) (k : Nat) (C : Addr) : Prop where
  ex : ∃ (D f : Addr) (fd : FuncData), ErrC K D C ∧ PySem.W.findIn K (.ref C) "__init__" = some (some (.ref f)) ∧ PySem.W.typeIn K (.ref f) = some (.type "function") ∧ Binds K fd pI [] ∧
    ∀ CX : CXT, FnOk P w K mg base CX k f fd pI (spInit K D)
section
variable {X : Cx} {W : Wd} {Wx : WX} {k c : Nat} {fe : SE} {e : Expr} {x : Str} {p pos pos' : Pos} {σ : L2.St} {H : Hp} {De : Ends}
theorem sem_a1 {P : List V → Hp → Prop} (q : semE W Wx fe σ H fun v H1 => P [v] H1) : semA W Wx (a_cons fe a_nil) σ H P := by
  obtain ⟨α, env, h, cc, k⟩ := q
  refine ⟨α, env, h, cc, ?_⟩
  simp only [a_cons, a_nil]
  cases r : fe env h with
  | bad => rw [r] at k; exact k
  | exc c d h' => rw [r] at k; exact k
  | ok d h' =>
    rw [r] at k
    intro α' H' vs le hc rv
    have rv : Reps W.K α' H' [d] vs := rv
    simp only [Reps] at rv
    obtain ⟨v, r2, rfl, rv1, rfl⟩ := rv
    exact k α' H' v le hc rv1
theorem made_heap {H1 : Hp} {a d C : Addr} {fs : List (Str × V)} (na : H1 a = none) (nd : d ≠ a) : upd (L2.del (upd (upd (upd H1 a (exo a C none)) d (exd d fs)) a (exo a C (some d))) a) d (.xd fs) = upd H1 d (.xd fs) := by
  funext b
  by_cases hb : b = d
  · subst hb; rw [upd_same, upd_same]
  · rw [upd_ne hb, upd_ne hb]
    by_cases ha : b = a
    · subst ha; rw [L2.del_same, na]
    · rw [L2.del_ne ha, upd_ne ha, upd_ne hb, upd_ne ha]
/-- C(e), C a class of errors: made -/
theorem q_pmk {C : Addr} (M : MkE X.prog X.w X.K X.mg X.base k C) (hr : Room (k + 1) X.A) (hg : Gl X x) (hm : X.mg x = some (.ref C)) (ha : PE X e (semE W Wx fe)) (hdb : (x == ("__debug__" : Str)) = false := by decide)
    (hs : starEach [e] X.env = (false, eval e X.env) :: starEach [] X.env := by rfl) (hpl : (backTo pos (starEach [] X.env)).any (·.1) = false := by rfl) :
    ∃ D, ErrC X.K D C ∧ PMk X (.Call (.Name x p) [e] [] pos) (tMkO C (spInit X.K D) [] (semA W Wx (a_cons fe a_nil))) := by
  obtain ⟨D, f, fd, E, i1, i2, b, F⟩ := M.ex
  exact ⟨D, E, pmk_oex (CX := fun _ _ _ _ _ _ => False) E.oex i1 i2 (F _) hr b .nil (fun _ _ _ _ _ _ _ z => z.elim) hg hm (qa_cons ha qa_nil hs) hdb hs hpl⟩
/-- what is wished of the one that is made: the class, the dict -/
theorem made_of {D C : Addr} {Q : XK} (E : ErrC X.K D C) (hfl : W.fld "value" = ("value" : Str)) (q : semE W Wx fe σ H fun v H1 => ∀ d, H1 d = none → Q (.ref C) (some d) (upd H1 d (.xd [(W.fld "value", v)]))) :
    tMkO C (spInit X.K D) [] (semA W Wx (a_cons fe a_nil)) σ H Q := by
  refine sem_a1 ?_
  obtain ⟨α, env, h, cc, k⟩ := q
  refine ⟨α, env, h, cc, ?_⟩
  cases r : fe env h with
  | bad => rw [r] at k; exact k
  | exc c d h' => rw [r] at k; exact k
  | ok d h' =>
    rw [r] at k
    intro α' H1 v le hc rv
    have q := k α' H1 v le hc rv
    refine ⟨by simp, fun a na => ⟨a, C, v, rfl, E, upd_same, fun dx hdx hne => ⟨rfl, dx, [("value", v)], upd_same, by rw [upd_ne hne, upd_same], ?_, ?_⟩⟩⟩
    · rw [upd_ne hne] at hdx; exact hdx
    · rw [made_heap na hne, ← hfl]
      exact q dx (by rw [upd_ne hne] at hdx; exact hdx)
theorem xd_keep {α : List Addr} {h : IR.Heap} {H1 : Hp} {d : Addr} {fs : List (Str × V)} (hd : H1 d = none) (hc : HCorr W α h H1) : Le W.K α H1 α (upd H1 d (.xd fs)) ∧ HCorr W α h (upd H1 d (.xd fs)) :=
  ⟨ext_le (keep_upd hd), ext_hc (keep_upd hd) hc⟩
/-- raise C(e) -/
theorem q_raise {C : Addr} (hC : W.ec c = C) (M : MkE X.prog X.w X.K X.mg X.base k C) (hr : Room (k + 1) X.A) (hg : Gl X x) (hm : X.mg x = some (.ref C)) (ha : PE X e (semE W Wx fe)) (hfl : W.fld "value" = ("value" : Str)) (hca : X.calm = true) (tk : Takes X Wx)
    (hdb : (x == ("__debug__" : Str)) = false := by decide) (hs : starEach [e] X.env = (false, eval e X.env) :: starEach [] X.env := by rfl) (hpl : (backTo pos (starEach [] X.env)).any (·.1) = false := by rfl) :
    PS X (.Raise (some (.Call (.Name x p) [e] [] pos)) none pos') (semS W Wx (s_raise c fe)) := by
  obtain ⟨D, E, m⟩ := q_pmk (p := p) (pos := pos) M hr hg hm ha hdb hs hpl
  refine (L2.ps_raise hca tk m).imp fun De σ H q => made_of E hfl (toGc (g := fun env v h1 => .exc c v env h1) q fun α env b h1 v H1 cc rv k d hd => ?_)
  obtain ⟨le, hc⟩ := xd_keep (fs := [(W.fld "value", v)]) hd cc.hc
  rw [← hC]
  exact k α σ _ d v le (cc.later le hc) (rv.mono le) upd_same
/-- C(e), held -/
theorem q_err {C : Addr} (hC : W.ec c = C) (M : MkE X.prog X.w X.K X.mg X.base k C) (hr : Room (k + 1) X.A) (hg : Gl X x) (hm : X.mg x = some (.ref C)) (ha : PE X e (semE W Wx fe)) (hfl : W.fld "value" = ("value" : Str)) (hex : X.ex = [])
    (hdb : (x == ("__debug__" : Str)) = false := by decide) (hs : starEach [e] X.env = (false, eval e X.env) :: starEach [] X.env := by rfl) (hpl : (backTo pos (starEach [] X.env)).any (·.1) = false := by rfl) :
    PE X (.Call (.Name x p) [e] [] pos) (semE W Wx (e_err c fe)) := by
  obtain ⟨D, E, m⟩ := q_pmk (p := p) (pos := pos) M hr hg hm ha hdb hs hpl
  refine (pe_made m hex).imp fun σ H Q q => made_of E hfl ?_
  obtain ⟨α, env, h, cc, k⟩ := q
  refine ⟨α, env, h, cc, ?_⟩
  simp only [e_err] at k
  have k2 : Run W (RV W) (WE Wx σ) α H (fun v H1 => ∀ d, H1 d = none → ∃ C' d', Value.ref C = .ref C' ∧ some d = some d' ∧ ∀ a, upd H1 d (.xd [(W.fld "value", v)]) a = none → Q (.ref a) (upd (upd H1 d (.xd [(W.fld "value", v)])) a (exv a C' d'))) (gc h (fe env h)) := by
    cases r : gc h (fe env h) with
    | bad => rw [r] at k; exact k
    | exc c d h' => rw [r] at k; exact k
    | ok v0 h1 =>
      rw [r] at k
      intro α' H1 v le hc rv d hd
      refine ⟨C, d, rfl, rfl, fun a na => ?_⟩
      obtain ⟨le1, hc1⟩ := xd_keep (fs := [(W.fld "value", v)]) hd hc
      have ne : d ≠ a := fun z => by subst z; rw [upd_same] at na; cases na
      obtain ⟨le2, hc2, r2⟩ := new_obj (lo := .err c v0) na (keep_upd (o := exv a C d) na) hc1 ⟨d, v, by rw [hC]; exact upd_same, by rw [upd_ne ne, upd_same], (rv.mono le1).mono ⟨⟨[a], rfl⟩, (ext_le (α := α') (W := W) (keep_upd (o := exv a C d) na)).tup, (ext_le (α := α') (W := W) (keep_upd (o := exv a C d) na)).frz⟩⟩
      exact k _ _ _ (le.trans (le1.trans le2)) hc2 r2
  exact Run.gc cc.hc k2
/-- err.value -/
theorem q_errval (hK : W.K = X.K) (hec : ∀ c, LookC W.K (W.ec c)) (hfl : W.fld "value" = ("value" : Str)) (ha : PE X e (semE W Wx fe)) (hb : attributeBase e "value" X.env (eval e X.env) = eval e X.env := by rfl) : PE X (.Attribute e "value" pos) (semE W Wx (e_1 o_errval fe)) :=
  (pe_val ha hb).imp fun σ H Q q => bindG (g := fun _ x h1 => o_errval x h1) q fun α env x h1 v H1 cc rx k => by
    unfold o_errval at k
    split at k
    · rename_i kk
      obtain ⟨a, ea, rfl⟩ := of_ref rx
      split at k
      · rename_i c0 v0 e1
        obtain ⟨dx, y, x1, x2, x3⟩ := cc.hc.ob _ _ a e1 ea
        refine ⟨a, _, dx, _, y, rfl, x1, hK ▸ (hec c0).xc, hK ▸ (hec c0).noval, x2, ?_, Run.done k cc.hc x3⟩
        rw [hfl, List.lookup_cons_self]
      · exact k.elim
    · exact k.elim
/-! try -/
abbrev WN : WX := fun _ _ _ _ => False
/-- the clauses as they are read -/
inductive HdsS (W : Wd) (K : PySem.W.Frag) : List (Value × Option Nat × TS) → List Hd → Prop
  | nil : HdsS W K [] []
  | cons {u : Value} {d : Hd} {l : List (Value × Option Nat × TS)} {hs : List Hd} (he : ∀ c, PySem.W.exmOne K (.ref (W.ec c)) u = some (d.test c)) (r : HdsS W K l hs) : HdsS W K ((u, d.slot, semS W WN d.body) :: l) (d :: hs)
theorem Corr.unset {α : List Addr} {env : IR.Env} {h : IR.Heap} {i : Nat} (c : Corr W α env h σ H) : Corr W α (env.set i none) h (σ.set i none) H := by
  refine ⟨c.hc, by rw [List.length_set, List.length_set]; exact c.len, fun j d e => ?_⟩
  by_cases hj : j = i
  · subst hj
    by_cases hl : j < env.length
    · rw [List.getElem?_set_self hl] at e; cases e
    · rw [List.getElem?_eq_none (by simpa using hl)] at e; cases e
  · rw [List.getElem?_set_ne (Ne.symm hj)] at e
    obtain ⟨v, q, r⟩ := c.en j d e
    exact ⟨v, by rw [List.getElem?_set_ne (Ne.symm hj)]; exact q, r⟩
theorem done_flow {α : List Addr} {oi : Option Nat} {fl : IR.Flow} (q : FlowRun W Wx De α H (Hd.done oi fl)) : FlowRun W WN (goneD oi De) α H fl := by
  cases fl with
  | nx env h =>
    cases oi with
    | none => exact q
    | some i => exact fun α' σ' H' le c => q α' (σ'.set i none) H' le c.unset
  | bk env h =>
    cases oi with
    | none => exact q
    | some i => exact fun α' σ' H' le c => q α' (σ'.set i none) H' le c.unset
  | ct env h =>
    cases oi with
    | none => exact q
    | some i => exact fun α' σ' H' le c => q α' (σ'.set i none) H' le c.unset
  | rt v h => cases oi <;> exact q
  | exc c v env h => cases oi <;> exact q.elim
  | bad => cases oi <;> exact q.elim
theorem try_wish {K : PySem.W.Frag} {α : List Addr} {l : List (Value × Option Nat × TS)} {hs : List Hd} (S : HdsS W K l hs) {v : D} {env' : IR.Env} {h' : IR.Heap} (q : FlowRun W Wx De α H (tryF hs c v env' h')) :
    ∀ α' σ' H' dx u, Le W.K α H α' H' → Corr W α' env' h' σ' H' → Rep W.K α' H' v u → H' dx = some (.xd [(W.fld "value", u)]) → wE K Wx De l (.ref (W.ec c)) (some dx) σ' H' := by
  induction S with
  | nil => exact q
  | @cons u d l hs he r ih =>
    intro α' σ' H' dx y le cc rv hx
    refine ⟨d.test c, he c, fun ht => ⟨_, dx, rfl, rfl, fun a na => ?_⟩, fun hf => ?_⟩
    · simp only [tryF, ht, if_true] at q
      have le1 := ext_le (α := α') (W := W) (keep_upd (o := exv a (W.ec c) dx) na)
      have ne : dx ≠ a := fun z => by subst z; rw [hx] at na; cases na
      obtain ⟨le2, hc2, r2⟩ := new_obj (lo := .err c v) na (keep_upd (o := exv a (W.ec c) dx) na) cc.hc ⟨dx, y, upd_same, by rw [upd_ne ne]; exact hx, rv.mono ⟨⟨[a], rfl⟩, le1.tup, le1.frz⟩⟩
      have c2 := cc.later le2 hc2
      obtain ⟨test, slot, bod⟩ := d
      cases slot with
      | none => exact ⟨_, _, _, c2, done_flow (FlowRun.later q (le.trans le2))⟩
      | some i => exact ⟨_, _, _, c2.set r2, done_flow (FlowRun.later q (le.trans le2))⟩
    · simp only [tryF, hf, Bool.false_eq_true, if_false] at q
      exact ih q α' σ' H' dx y le cc rv hx
theorem q_try {fb : SS} {body : List Stmt} {h₀ : ExceptHandler} {hds : List ExceptHandler} {l : List (Value × Option Nat × TS)} {hs : List Hd} (hst : X.stack = X.env :: X.outer) (hf : X.env.frame = some X.env.locals) (hex : X.ex = []) (tk : Takes X Wx)
    (hb : ∀ (W' : WX) (pn : List (Addr × Obj)) (xe : Value → Shared → Prop), Takes (X.tr pn xe) W' → PassesOwn (model X.prog X.w) X.A X.env xe → PSs (X.tr pn xe) body (semS W W' fb))
    (hh : HdsE X (h₀ :: hds) l) (S : HdsS W X.K l hs) : PS X (.Try body (h₀ :: hds) [] [] pos) (semS W Wx (s_try fb hs)) :=
  (ps_tryE (tb := fun W' => semS W W' fb) hst hf hex tk hb hh).imp fun De σ H q => by
    obtain ⟨α, env, h, cc, q⟩ := q
    refine ⟨α, env, h, cc, ?_⟩
    simp only [s_try] at q
    cases e : fb env h with
    | exc c v env' h' => rw [e] at q; exact try_wish S q
    | nx env' h' => rw [e] at q; exact q
    | bk env' h' => rw [e] at q; exact q
    | ct env' h' => rw [e] at q; exact q
    | rt v h' => rw [e] at q; exact q
    | bad => rw [e] at q; exact q
end
end IR
end

section
set_option Elab.async false
set_option linter.all false
set_option autoImplicit false
set_option maxRecDepth 100000
set_option maxHeartbeats 4000000
/-! a law's end over defs that know that no repr is under way -/
namespace IR
open PySem PySem.Spec PyProof.Rows L2
theorem nog_caller : NoG callerA := rfl
section
variable {P : Program} {w : World} {K : PySem.W.Frag} {mg mb : Str → Option Value} {k : Nat} {fa q : Addr} {fd : FuncData} {x : Str} {sp : Sp} {sh : Shared} {us : List Value} {is : List Int}
abbrev Told (sh : Shared) (r : Result) (t : Shared) : Prop := r = .ok (.ret (.bool true)) ∧ OldK sh.heap t.heap ∧ t.os = sh.os ∧ AllBare t.gens
theorem end_core (KX : K.In sh.heap) (hns : sh.heap.Ns mainGlobals mg) (hb : sh.heap.Ns builtinsNs mb) (hbb : ∀ x : Str, x ≠ "__name__" → mb x = bootBuiltins x) (hlim : sh.heap.NoLimit) (hg : sh.gens = #[])
    (ha : sh.heap.get? q = some { cls := .type "list", data := .seq us.toArray }) (hr : Room k callerA) (F : ∀ base : PySem.Heap, K.In base → base.Ns mainGlobals mg → FnG P w K mg base k fa fd [x] sp) (hbind : ∀ (s : Shared) (u : Value), BindsTo s fd ⟨[u], []⟩ [(x, u)])
    (hsp : ∀ H : Hp, Only H → SqL K H q (is.map V.int) → sp [.ref q] H (fun v _ => v = .bl true) X0) {H : Hp} (hO : Only H) (hS : SqL K H q (is.map V.int)) (hok : HOk P w H sh.heap) (hA : ∀ b, H b ≠ none → b = q) (hK : H q ≠ none → K.lookup q = none) :
    codeAny (model P w) callerA (.call (.ref fa) ⟨[.ref q], []⟩) (Told sh) sh := by
  have down : ∀ {b : Addr} {o : Obj}, sh.heap.get? b = some o → H b = none → (hidT sh.heap H).get? b = some o := fun e n => hidT_get e n
  have free : ∀ {b : Addr} {o : Obj} {es : Array DictEntry} {ep : Nat}, sh.heap.get? b = some o → o.data = .dict es ep → H b = none := by
    intro b o es ep e d
    cases z : H b with
    | none => rfl
    | some u =>
      have hb2 := hA b (by rw [z]; simp)
      subst hb2
      rw [ha] at e
      cases e
      have d2 : Data.seq us.toArray _ = Data.dict es ep := d
      cases d2
  have names : ∀ {b : Addr} {m : Str → Option Value}, sh.heap.Ns b m → (hidT sh.heap H).Ns b m := by
    rintro b m ⟨o, es, ep, e, d, r⟩
    exact ⟨o, es, ep, down e (free e d), d, r⟩
  have written : K.In (hidT sh.heap H) := by
    intro b o e
    refine down (KX b o e) ?_
    cases z : H b with
    | none => rfl
    | some u =>
      have hb2 := hA b (by rw [z]; simp)
      subst hb2
      have z2 := hK (by rw [z]; simp)
      rw [z2] at e
      cases e
  obtain ⟨mc, l1, l2⟩ := hlim
  have top : Mod K mg (hidT sh.heap H) := ⟨written, names hns, ⟨mb, names hb, hbb⟩, ⟨mc, names l1, l2⟩⟩
  have e0 : Env0 P w K mg (hidT sh.heap H) callerA [] sh H := ⟨rfl, top, fun b o e => of_hidT e, Nat.le_of_eq (hidT_size _ _), trivial, (fun b hb => by cases hb), hok, AllBare.of_eq hg⟩
  have call := (F _ written (names hns)).run callerA [] sh H ⟨[.ref q], []⟩ [.ref q] [.ref q] _ _ hr nog_caller e0 (hbind sh (.ref q)) (.cons rfl .nil) (hsp H hO hS)
  refine codeAny_mono call fun r t h => ?_
  cases r with
  | error e =>
    obtain ⟨_, _, _, _, _, _, _, _, _, _, _, _, z⟩ := h
    exact z.elim
  | ok fl =>
    cases fl with
    | ret u =>
      obtain ⟨v, H2, os, bare, un, hok2, rv, e⟩ := h
      have e' : v = V.bl true := e
      subst e'
      cases (show u = Value.bool true from rv)
      refine ⟨rfl, OldK.of_keep fun b o e => ?_, os, bare⟩
      rcases hO b with z | ⟨ob, xs, z⟩
      · exact un.keep b o e z (fun y => by cases y) (by simp)
      · obtain ⟨y1, _⟩ := hok b _ z
        obtain ⟨y2, _⟩ := hok2 b _ (un.frzs b ob _ z)
        rw [e] at y1
        cases y1
        exact y2
    | next => exact h.elim
    | brk => exact h.elim
    | cont => exact h.elim
theorem end_call (KX : K.In sh.heap) (hns : sh.heap.Ns mainGlobals mg) (hb : sh.heap.Ns builtinsNs mb) (hbb : ∀ x : Str, x ≠ "__name__" → mb x = bootBuiltins x) (hlim : sh.heap.NoLimit) (hg : sh.gens = #[])
    (ha : sh.heap.get? q = some { cls := .type "list", data := .seq us.toArray }) (hi : IntsAre us is) (hl : is.length ≤ sizeLine) (hr : Room k callerA)
    (F : ∀ base : PySem.Heap, K.In base → base.Ns mainGlobals mg → FnG P w K mg base k fa fd [x] sp) (hbind : ∀ (s : Shared) (u : Value), BindsTo s fd ⟨[u], []⟩ [(x, u)])
    (hsp : ∀ H : Hp, Only H → SqL K H q (is.map V.int) → sp [.ref q] H (fun v _ => v = .bl true) X0) :
    codeAny (model P w) callerA (.call (.ref fa) ⟨[.ref q], []⟩) (Told sh) sh := by
  have rv := vals_ints hi
  have ln := hi.length
  cases hk : K.lookup q with
  | some o =>
    have e := KX q o hk
    rw [ha] at e
    cases e
    have hS : SqL K (fun _ => none) q (is.map V.int) := .inr ⟨_, us.toArray, _, hk, rfl, rfl, rfl, by rw [List.size_toArray, ln]; exact hl, by simpa using rv⟩
    exact end_core KX hns hb hbb hlim hg ha hr F hbind hsp (fun _ => .inl rfl) hS (fun b u z => by cases z) (fun b z => (z rfl).elim) fun z => (z rfl).elim
  | none =>
    have at_ : ∀ b, (if b = q then some (HO.frz { cls := .type "list", data := .seq us.toArray } (.lst (is.map V.int))) else none) ≠ none → b = q := by
      intro b z
      by_cases hb : b = q
      · exact hb
      · rw [if_neg hb] at z; exact (z rfl).elim
    refine end_core (H := fun b => if b = q then some (.frz { cls := .type "list", data := .seq us.toArray } (.lst (is.map V.int))) else none) KX hns hb hbb hlim hg ha hr F hbind hsp (fun b => ?_) (.inl (.inr ⟨_, if_pos rfl⟩)) (fun b u z => ?_) at_ fun _ => hk
    · by_cases hb : b = q
      · exact .inr ⟨_, _, if_pos hb⟩
      · exact .inl (if_neg hb)
    · have hb2 := at_ b (fun y => by cases y.symm.trans z)
      subst hb2
      have z2 := (if_pos rfl).symm.trans z
      cases z2
      exact ⟨ha, by rw [List.length_map]; exact hl, us, _, rv, ha⟩
end
/-- the law's walk -/
theorem walk_end {l : PySem.W.OpenLaw} {n k : Nat} {q : Program} {loose : List Str} {XP : (Str → Option Value) → PySem.Heap → Prop} {YP : World → PySem.Heap → Prop} {d : DefRec} {x : Str} (hn : l.most = some n) (hn2 : n ≤ sizeLine) (hdf : d.params.defaults = []) (hr : Room k callerA)
    (F : ∀ (w : World) (mg : Str → Option Value) (fa : Addr) (h : PySem.Heap), YP w h → h.Ns mainGlobals mg → mg d.name = some (.ref fa) →
      ∃ (W : Wd) (fd : FuncData) (g : OL), W.K.In h ∧ (∀ (s : Shared) (u : Value), BindsTo s fd ⟨[u], []⟩ [(x, u)]) ∧ (∀ is : List Int, is.length ≤ n → ∃ h', g [.frz (is.map .int)] [] = .ok (.bl true) h') ∧
        ∀ base : PySem.Heap, W.K.In base → base.Ns mainGlobals mg → FnG l.prog w W.K mg base k fa fd [x] (spG W g)) :
    PySem.W.WalkO q loose XP YP l.row.toRowW d [] (fun f vs => PySem.call f vs) := by
  refine Att.attach_call hn hdf fun w s₀ s₁ mg mb fa o pm cd doc a vs ns G Y ho hd hcd hmg hobj hints hlen hg => ?_
  obtain ⟨W, fd, g, KX, hb, hsp, hF⟩ := F w mg fa _ Y G.T.g hmg
  refine end_call KX G.T.g G.T.b G.T.builtins G.T.nolimit hg hobj hints (Nat.le_trans hlen hn2) hr hF hb fun H hO hS => ?_
  have itemsR : ∀ is : List Int, Reps W.K [] H (is.map .int) (is.map V.int) := by
    intro is
    induction is with
    | nil => simp only [List.map_nil, Reps]
    | cons i r ih => simp only [List.map_cons, Reps]; exact ⟨_, _, rfl, r_int, ih⟩
  have sq : SqF W.K H a (ns.map V.int) := by
    rcases hS with (z | ⟨o, z⟩) | z
    · rcases hO a with y | ⟨_, _, y⟩ <;> (rw [z] at y; cases y)
    · exact .inl ⟨o, z⟩
    · exact .inr fun _ => .inr z
  obtain ⟨h', e⟩ := hsp ns hlen
  refine ⟨[], [.frz (ns.map .int)], [], ⟨rfl, List.nodup_nil, fun i o a e => by simp at e⟩, ?_, ?_⟩
  · simp only [Reps, Rep]
    exact ⟨_, _, rfl, ⟨a, _, rfl, sq, itemsR ns⟩, rfl⟩
  · rw [e]
    exact fun α' H' c _ _ r => of_bl r
end IR
end

section
set_option Elab.async false
set_option linter.all false
set_option autoImplicit false
set_option maxRecDepth 100000
set_option maxHeartbeats 4000000
/-! the head: what is known of the written part, by booleans -/
namespace IR
open PySem PySem.Spec PyProof.Rows L2 He
/-- a def in a class -/
def clsSt : Stmt → Nat → Stmt
  | .ClassDef (body := b) .., j => b.getD j (.Pass ⟨0, 0, 0, 0⟩)
  | _, _ => .Pass ⟨0, 0, 0, 0⟩
/-- a def, wherever it stands -/
structure DefA where
  ad : PySem.W.Frag → Addr
  name : Str
  qual : Str
  params : Arguments
  body : List Stmt
  scope : Scope
  /-- the names of its captured cells -/
  clo : List Str := []
abbrev FnE : Type := Option (Str × Str × Arguments × FuncBody × Scope × Addr × List Str × Addr)
def fnA (K : PySem.W.Frag) (a : Addr) : FnE := match K.lookup a with
  | some ⟨_, _, .func fd, _⟩ => some (fd.name, fd.qualname, fd.params, fd.body, fd.scope, fd.globals, fd.closure.map (·.1), fd.builtins)
  | _ => none
def DefA.val (d : DefA) : FnE := some (d.name, d.qual, d.params, .stmts d.body, d.scope, mainGlobals, d.clo, builtinsNs)
def DefA.ok (K : PySem.W.Frag) (d : DefA) : Bool := PySem.W.keepIn K (.ref (d.ad K)) && (match K.lookup (d.ad K) with
  | some ⟨_, _, .func fd, _⟩ => PySem.W.codeIn K fd.code d.qual && (dflB K fd.defaults [] && kwdB K fd.kwdefaults [])
  | _ => false)
theorem DefA.fun_ {K : PySem.W.Frag} {d : DefA} (e : fnA K (d.ad K) = d.val) (hc : d.clo = []) (c : d.ok K = true) : ∃ fd, FunD K d.name d.qual d.params d.body d.scope [] [] (d.ad K) fd := by
  obtain ⟨kp, c2⟩ := ba c
  unfold fnA at e
  cases q : K.lookup (d.ad K) with
  | none => rw [q] at c2; cases c2
  | some o =>
    obtain ⟨oc, od, dt, sl⟩ := o
    rw [q] at c2 e
    cases dt with
    | func fd =>
      obtain ⟨m1, m2, m3, m4, m5, m6, m7, m8, m9, m10, m11, m12, m13, m14, m15⟩ := fd
      have e2 : (some (m1, m2, m3, m4, m5, m6, m7.map (·.1), m15) : FnE) = some (d.name, d.qual, d.params, .stmts d.body, d.scope, mainGlobals, d.clo, builtinsNs) := e
      simp only [Option.some.injEq, Prod.mk.injEq] at e2
      obtain ⟨y1, y2, y3, y4, y5, y6, y7, y8⟩ := e2
      rw [hc] at y7
      have y7 := List.map_eq_nil_iff.mp y7
      subst y1 y2 y3 y4 y5 y6 y7 y8
      obtain ⟨k1, k2⟩ := ba (show (PySem.W.codeIn K m13 d.qual && (dflB K m8 [] && kwdB K m9 [])) = true from c2)
      obtain ⟨k3, k4⟩ := ba k2
      exact ⟨_, ⟨oc, od, m8, m9, m10, m11, m12, m13, m14, sl, rfl, q, k1, dflB_ok k3, kwdB_ok k4⟩, kp⟩
    | _ => cases c2
/-- the function object at a -/
def fdOf (K : PySem.W.Frag) (a : Addr) : FuncData := match K.lookup a with
  | some ⟨_, _, .func fd, _⟩ => fd
  | _ => PySem.W.fnOf Str.empty Str.empty (defArgs (.Pass ⟨0, 0, 0, 0⟩)) [] (defScope (.Pass ⟨0, 0, 0, 0⟩)) .none .none .none .none none .none .none
theorem fun_at {K : PySem.W.Frag} {x qual : Str} {pr : Arguments} {bd : List Stmt} {sc : Scope} {f : Addr} {fd : FuncData} (F : FunD K x qual pr bd sc [] [] f fd) : FunD K x qual pr bd sc [] [] f (fdOf K f) := by
  obtain ⟨oc, od, dV, kV, doc, pm, an, cdv, ct, osl, rfl, lk, r⟩ := F.ex
  have e : fdOf K f = PySem.W.fnOf x qual pr bd sc dV kV doc pm an cdv ct := by
    unfold fdOf
    rw [lk]
  rw [e]
  exact F
abbrev AlP : Type := Bool × List FnE
def obsP (n : Nat) (ds : List DefA) (ex : PySem.W.Frag → Bool) (g : Addr → Option Obj) : AlP := (ex (frT g (PySem.sysModules :: PySem.cStatics :: asD g n)) && ds.all (DefA.ok (frT g (PySem.sysModules :: PySem.cStatics :: asD g n))), ds.map fun d => fnA (frT g (PySem.sysModules :: PySem.cStatics :: asD g n)) (d.ad (frT g (PySem.sysModules :: PySem.cStatics :: asD g n))))
def valP (ds : List DefA) : AlP := (true, ds.map DefA.val)
structure SaysP (ds : List DefA) (ex : PySem.W.Frag → Bool) (K : PySem.W.Frag) : Prop where
  ex : ex K = true
  ok : ds.all (DefA.ok K) = true
  val : ds.map (fun d => fnA K (d.ad K)) = ds.map DefA.val
def hookP (n : Nat) (ds : List DefA) (ex : PySem.W.Frag → Bool) : PySem.W.Hook where
  α := AlP
  obs := fun s => obsP n ds ex s.heap.get?
  val := fun _ => valP ds
  says := fun _ h => ∃ K : PySem.W.Frag, K.In h ∧ SaysP ds ex K
  of := fun _ s e => by
    have e1 := congrArg (fun z : AlP => z.1) e
    have e2 := congrArg (fun z : AlP => z.2) e
    obtain ⟨h1, h2⟩ := ba e1
    exact ⟨_, frT_in, h1, h2, e2⟩
  keeps := fun _ _ _ ⟨K, hK, c⟩ k => ⟨K, PySem.W.Frag.In.keeps hK k, c⟩
theorem obsP_eq {n : Nat} {ds : List DefA} {ex : PySem.W.Frag → Bool} {g : Addr → Option Obj} {s : Shared} (h : ∀ a, g a = s.heap.get? a) : obsP n ds ex g = (hookP n ds ex).obs s := by
  have e : g = s.heap.get? := funext h
  rw [e] <;> rfl
theorem SaysP.def_ {ds : List DefA} {ex : PySem.W.Frag → Bool} {K : PySem.W.Frag} (c : SaysP ds ex K) (i : Nat) {d : DefA} (h : ds[i]? = some d := by rfl) (hcl : d.clo = [] := by rfl) : FunD K d.name d.qual d.params d.body d.scope [] [] (d.ad K) (fdOf K (d.ad K)) := by
  have e2 : (ds.map fun d => fnA K (d.ad K))[i]? = (ds.map DefA.val)[i]? := by rw [c.val]
  rw [List.getElem?_map, List.getElem?_map, h] at e2
  obtain ⟨fd, F⟩ := DefA.fun_ (Option.some.inj e2) hcl (List.all_eq_true.mp c.ok d (List.mem_of_getElem? h))
  exact fun_at F
/-! booleans -/
section
variable {K : PySem.W.Frag} {C f : Addr} {nm : String}
def opB (K : PySem.W.Frag) (C f : Addr) (nm : String) : Bool :=
  PySem.W.selfFirst K C && (eqO (PySem.W.findIn K (.ref C) (PySem.dunder nm)) (some (some (.ref f))) && (PySem.W.isFn K (.ref f) && ((match PySem.W.findIn K (.ref C) (dunderR nm) with
    | some none => true
    | some (some (.ref _)) => true
    | _ => false) && ((PySem.W.findIn K (.type "str") (PySem.dunder nm)).isSome && ((PySem.W.findIn K (.type "str") (dunderR nm)).isSome && decide (PySem.W.subIn K (.type "str") (.ref C) = some false))))))
theorem opB_ok (h : opB K C f nm = true) : OpF K C f nm := by
  obtain ⟨h1, h⟩ := ba h
  obtain ⟨h2, h⟩ := ba h
  obtain ⟨h3, h⟩ := ba h
  obtain ⟨h4, h⟩ := ba h
  obtain ⟨h5, h⟩ := ba h
  obtain ⟨h6, h7⟩ := ba h
  refine ⟨h1, eqO_ok h2, h3, ?_, Option.isSome_iff_exists.mp h5, Option.isSome_iff_exists.mp h6, of_decide_eq_true h7⟩
  cases q : PySem.W.findIn K (.ref C) (dunderR nm) with
  | none => rw [q] at h4; cases h4
  | some r =>
    rw [q] at h4
    cases r with
    | none => exact ⟨none, rfl, .inl rfl⟩
    | some v =>
      cases v with
      | ref g => exact ⟨_, rfl, .inr ⟨g, rfl⟩⟩
      | _ => cases h4
def opRB (K : PySem.W.Frag) (C f : Addr) (nm : String) : Bool :=
  PySem.W.selfFirst K C && ((match PySem.W.findIn K (.ref C) (PySem.dunder nm) with
    | some (some (.ref _)) => true
    | _ => false) && (eqO (PySem.W.findIn K (.ref C) (dunderR nm)) (some (some (.ref f))) && (PySem.W.isFn K (.ref f) && (eqO (PySem.W.findIn K (.type "str") (PySem.dunder nm)) (some none) && eqO (PySem.W.findIn K (.type "str") (dunderR nm)) (some none)))))
theorem opRB_ok (h : opRB K C f nm = true) : OpRF K C f nm := by
  obtain ⟨h1, h⟩ := ba h
  obtain ⟨h2, h⟩ := ba h
  obtain ⟨h3, h⟩ := ba h
  obtain ⟨h4, h⟩ := ba h
  obtain ⟨h5, h6⟩ := ba h
  refine ⟨h1, ?_, eqO_ok h3, h4, eqO_ok h5, eqO_ok h6⟩
  cases q : PySem.W.findIn K (.ref C) (PySem.dunder nm) with
  | none => rw [q] at h2; cases h2
  | some r =>
    rw [q] at h2
    cases r with
    | none => cases h2
    | some v =>
      cases v with
      | ref g => exact ⟨g, rfl⟩
      | _ => cases h2
def opIB (K : PySem.W.Frag) (C : Addr) (nm : String) : Bool := mro2 K C && (eqO (PySem.W.findIn K (.ref C) (dunderI nm)) (some none) && eqO (PySem.W.findIn K (.type "object") (dunderI nm)) (some none))
theorem opIB_ok (h : opIB K C nm = true) : OpIF K C nm := by
  obtain ⟨h1, h⟩ := ba h
  obtain ⟨h2, h3⟩ := ba h
  exact ⟨h1, eqO_ok h2, eqO_ok h3⟩
def cmpB (K : PySem.W.Frag) (C f : Addr) (nm : Str) : Bool := eqO (PySem.W.findIn K (.ref C) nm) (some (some (.ref f))) && (PySem.W.isFn K (.ref f) && (["NoneType", "bool", "int", "str", "tuple", "list", "dict"] : List String).all fun T => PySem.W.notFirst K C (.type T))
theorem cmpB_ok {nm : Str} (h : cmpB K C f nm = true) : CmpF K C f nm := by
  obtain ⟨h1, h⟩ := ba h
  obtain ⟨h2, h3⟩ := ba h
  exact ⟨eqO_ok h1, h2, List.all_eq_true.mp h3⟩
def methB (K : PySem.W.Frag) (C f : Addr) (nm : Str) : Bool := eqO (PySem.W.findIn K (.ref C) nm) (some (some (.ref f))) && PySem.W.isFn K (.ref f)
theorem methB_ok {nm : Str} (h : methB K C f nm = true) : PySem.W.findIn K (.ref C) nm = some (some (.ref f)) ∧ PySem.W.isFn K (.ref f) = true := ⟨eqO_ok (ba h).1, (ba h).2⟩
/-- a property's getter -/
def propG (K : PySem.W.Frag) (p : Addr) : Addr := match PySem.W.recIn K p "property" with
  | some (.ref g :: _) => g
  | _ => 0
def propB (K : PySem.W.Frag) (C p : Addr) (f : Str) : Bool := eqO (PySem.W.findIn K (.ref C) f) (some (some (.ref p))) && (eqO (PySem.W.specialIn K (.ref p) "__get__") (some (some (.builtin "property.__get__"))) && (decide (PySem.W.takesIn K (.ref p) = some true) && (match PySem.W.recIn K p "property" with
  | some (.ref _ :: _) => true
  | _ => false)))
theorem propB_ok {p : Addr} {f : Str} (h : propB K C p f = true) : PropOf K C f p (propG K p) := by
  obtain ⟨h1, h⟩ := ba h
  obtain ⟨h2, h⟩ := ba h
  obtain ⟨h3, h4⟩ := ba h
  refine ⟨eqO_ok h1, eqO_ok h2, of_decide_eq_true h3, ?_⟩
  unfold propG
  cases q : PySem.W.recIn K p "property" with
  | none => rw [q] at h4; cases h4
  | some l =>
    rw [q] at h4
    cases l with
    | nil => cases h4
    | cons v r =>
      cases v with
      | ref g => exact ⟨r, rfl⟩
      | _ => cases h4
/-- instances -/
def clsB (K : PySem.W.Frag) (x : Str) : Bool := (Fa.cls x).ok K && (eqO (PySem.W.findIn K (.ref (ga K x)) (Str.ofString "__class__")) (some (some (.builtin "object.__class__"))) && (eqO (PySem.W.specialIn K (.builtin "object.__class__") (Str.ofString "__get__")) (some (some (.builtin "getset_descriptor.__get__"))) &&
  (decide (PySem.W.takesIn K (.builtin "object.__class__") = some true) && decide (PySem.W.mroIn K (ga K x) (.type "object") = some true))))
theorem clsB_ok {W : Wd} {c : Nat} {x : Str} (e : W.cl c = ga W.K x) (h : clsB W.K x = true) : ClsOk W c := by
  obtain ⟨h1, h⟩ := ba h
  obtain ⟨h2, h⟩ := ba h
  obtain ⟨h3, h⟩ := ba h
  obtain ⟨h4, h5⟩ := ba h
  exact ⟨e ▸ cls_ok h1, e ▸ eqO_ok h2, eqO_ok h3, of_decide_eq_true h4, e ▸ of_decide_eq_true h5⟩
def isaB (W : Wd) (n : Nat) (sub : Nat → Nat → Bool) (t : Ty) (u : Value) : Bool :=
  decide (PySem.W.kitOne W.K (.type "NoneType") u = some false) && (decide (PySem.W.kitOne W.K (.type "bool") u = some t.bl) && (decide (PySem.W.kitOne W.K (.type "int") u = some t.int) && (decide (PySem.W.kitOne W.K (.type "str") u = some t.str) &&
  (decide (PySem.W.kitOne W.K (.type "tuple") u = some t.tup) && (decide (PySem.W.kitOne W.K (.type "list") u = some t.lst) && (decide (PySem.W.kitOne W.K (.type "dict") u = some t.dic) && (((List.range (n + 1)).all fun c => decide (PySem.W.kitOne W.K (.ref (W.cl c)) u = some (t.is sub c))) &&
  ((List.range (n + 1)).all fun c => decide (PySem.W.kitOne W.K (.ref (W.ec c)) u = some (t.ise sub c))))))))))
theorem isaB_ok {W : Wd} {n : Nat} {sub : Nat → Nat → Bool} {t : Ty} {u : Value} (hc : ∀ c, n ≤ c → W.cl c = W.cl n) (hs : ∀ c d, n ≤ c → sub c d = sub n d) (hce : ∀ c, n ≤ c → W.ec c = W.ec n) (h : isaB W n sub t u = true) : IsaOk W sub t u := by
  obtain ⟨h1, h⟩ := ba h
  obtain ⟨h2, h⟩ := ba h
  obtain ⟨h3, h⟩ := ba h
  obtain ⟨h4, h⟩ := ba h
  obtain ⟨h5, h⟩ := ba h
  obtain ⟨h6, h⟩ := ba h
  obtain ⟨h9, h⟩ := ba h
  obtain ⟨h7, h8⟩ := ba h
  refine ⟨of_decide_eq_true h1, of_decide_eq_true h2, of_decide_eq_true h3, of_decide_eq_true h4, of_decide_eq_true h5, of_decide_eq_true h6, of_decide_eq_true h9, fun c => ?_, fun c => ?_⟩
  · have key : ∀ c, c ≤ n → PySem.W.kitOne W.K (.ref (W.cl c)) u = some (t.is sub c) := fun c hcn => of_decide_eq_true (List.all_eq_true.mp h7 c (List.mem_range.mpr (by omega)))
    by_cases hl : c ≤ n
    · exact key c hl
    · rw [hc c (by omega)]
      have e : t.is sub c = t.is sub n := by
        cases t <;> first | rfl | exact hs c _ (by omega)
      rw [e]
      exact key n (Nat.le_refl _)
  · have key : ∀ c, c ≤ n → PySem.W.kitOne W.K (.ref (W.ec c)) u = some (t.ise sub c) := fun c hcn => of_decide_eq_true (List.all_eq_true.mp h8 c (List.mem_range.mpr (by omega)))
    by_cases hl : c ≤ n
    · exact key c hl
    · rw [hce c (by omega)]
      have e : t.ise sub c = t.ise sub n := by
        cases t <;> first | rfl | exact hs c _ (by omega)
      rw [e]
      exact key n (Nat.le_refl _)
/-- the library's table of modules -/
def sysB (K : PySem.W.Frag) : Bool := match K.lookup sysModules with
  | some ⟨.type c, _, _, _⟩ => c == "dict"
  | _ => false
theorem sysB_ok {K : PySem.W.Frag} (h : sysB K = true) : SysD K := by
  unfold sysB at h
  split at h
  · rename_i e
    exact ⟨_, e, by rw [beq_iff_eq.mp h]⟩
  · cases h
/-! errors -/
def oexB (K : PySem.W.Frag) (C : Addr) : Bool := (match K.lookup C with
  | some ⟨.type "type", _, .cls cd, sl⟩ => (match cd.mro, sl.toList with
    | .ref C' :: bm, [_, _, _, _, some (.builtin n), _] => C' == C && (n == "ValueError.__new__" && (!cd.hasDel && (cd.hasDict && PySem.HandSPX.refsVE bm)))
    | _, _ => false)
  | _ => false) && (eqO (PySem.W.findIn K (.ref C) "__setattr__") (some (some (.builtin "object.__setattr__"))) && (decide (PySem.W.subIn K (.ref C) (.type "BaseException") = some true) && (decide (PySem.W.typeIn K (.ref C) = some (.type "type")) && PySem.W.keepIn K (.ref C))))
theorem oexB_ok {K : PySem.W.Frag} {C : Addr} (h : oexB K C = true) : OexC K C := by
  obtain ⟨h1, h⟩ := ba h
  obtain ⟨h2, h⟩ := ba h
  obtain ⟨h3, h⟩ := ba h
  obtain ⟨h4, h5⟩ := ba h
  refine ⟨?_, eqO_ok h2, of_decide_eq_true h3, of_decide_eq_true h4, h5⟩
  split at h1
  · rename_i dd cd sl ho
    split at h1
    · rename_i C' bm k0 k1 k2 k3 n k5 hm hs
      simp only [Bool.and_eq_true, beq_iff_eq, Bool.not_eq_true'] at h1
      obtain ⟨e1, e2, e3, e4, e5⟩ := h1
      subst e1 e2
      obtain ⟨nm, bs, mro, ns, qn, hd, sn, sub, ab, col, del⟩ := cd
      simp only at hm e3 e4
      subst hm e3 e4
      have hsl : sl = #[k0, k1, k2, k3, some (.builtin "ValueError.__new__"), k5] := by
        obtain ⟨l⟩ := sl
        simp only at hs
        rw [hs]
      subst hsl
      exact ⟨nm, qn, ns, bs, bm, sn, sub, ab, col, dd, k0, k1, k2, k3, k5, ho, e5⟩
    · cases h1
  · cases h1
def errB (K : PySem.W.Frag) (D C : Addr) : Bool := oexB K C && (eqO (PySem.W.ks_superIn K C D "__init__") (some (some (.builtin "ValueError.__init__"))) && (decide (PySem.W.mroIn K C (.ref D) = some true) && (decide (PySem.W.subIn K (.ref C) (.type "ValueError") = some true) && eqO (PySem.W.findIn K (.ref C) "value") (some none))))
theorem errB_ok {K : PySem.W.Frag} {D C : Addr} (h : errB K D C = true) : ErrC K D C := by
  obtain ⟨h1, h⟩ := ba h
  obtain ⟨h2, h⟩ := ba h
  obtain ⟨h3, h⟩ := ba h
  obtain ⟨h4, h5⟩ := ba h
  exact ⟨oexB_ok h1, eqO_ok h2, of_decide_eq_true h3, of_decide_eq_true h4, eqO_ok h5⟩
def excB (K : PySem.W.Frag) (C : Addr) : Bool := eqO (PySem.W.findIn K (.ref C) "__getattribute__") (some (some (.builtin "BaseException.__getattribute__"))) && (eqO (PySem.W.findIn K (.ref C) "__getattr__") (some none) && (decide (PySem.W.subIn K (.ref C) (.type "BaseException") = some true) && (PySem.W.hasDictIn K C && (eqO (PySem.W.findIn K (.ref C) "__class__") (some (some (.builtin "object.__class__"))) &&
  (eqO (PySem.W.specialIn K (.builtin "object.__class__") "__get__") (some (some (.builtin "getset_descriptor.__get__"))) && (decide (PySem.W.takesIn K (.builtin "object.__class__") = some true) && decide (PySem.W.mroIn K C (.type "object") = some true)))))))
theorem excB_ok {K : PySem.W.Frag} {C : Addr} (h : excB K C = true) : ExcC K C := by
  obtain ⟨h1, h⟩ := ba h
  obtain ⟨h2, h⟩ := ba h
  obtain ⟨h3, h⟩ := ba h
  obtain ⟨h4, h⟩ := ba h
  obtain ⟨h5, h⟩ := ba h
  obtain ⟨h6, h⟩ := ba h
  obtain ⟨h7, h8⟩ := ba h
  exact ⟨eqO_ok h1, eqO_ok h2, of_decide_eq_true h3, h4, eqO_ok h5, eqO_ok h6, of_decide_eq_true h7, of_decide_eq_true h8⟩
def lookB (K : PySem.W.Frag) (C : Addr) : Bool := excB K C && eqO (PySem.W.findIn K (.ref C) "value") (some none)
theorem lookB_ok {K : PySem.W.Frag} {C : Addr} (h : lookB K C = true) : LookC K C := ⟨excB_ok (ba h).1, eqO_ok (ba h).2⟩
/-- all classes of errors by their numbers -/
theorem looks_all {W : Wd} {n : Nat} (hce : ∀ c, n ≤ c → W.ec c = W.ec n) (h : ((List.range (n + 1)).all fun c => lookB W.K (W.ec c)) = true) : ∀ c, LookC W.K (W.ec c) := fun c => by
  have key : ∀ c, c ≤ n → LookC W.K (W.ec c) := fun c hcn => lookB_ok (List.all_eq_true.mp h c (List.mem_range.mpr (by omega)))
  by_cases hl : c ≤ n
  · exact key c hl
  · rw [hce c (by omega)]; exact key n (Nat.le_refl _)
/-- which except clause takes which error -/
def exmB (W : Wd) (n : Nat) (u : Value) (f : Nat → Bool) : Bool := (List.range (n + 1)).all fun c => decide (PySem.W.exmOne W.K (.ref (W.ec c)) u = some (f c))
theorem exmB_ok {W : Wd} {n : Nat} {u : Value} {f : Nat → Bool} (hce : ∀ c, n ≤ c → W.ec c = W.ec n) (hf : ∀ c, n ≤ c → f c = f n) (h : exmB W n u f = true) : ∀ c, PySem.W.exmOne W.K (.ref (W.ec c)) u = some (f c) := fun c => by
  have key : ∀ c, c ≤ n → PySem.W.exmOne W.K (.ref (W.ec c)) u = some (f c) := fun c hcn => of_decide_eq_true (List.all_eq_true.mp h c (List.mem_range.mpr (by omega)))
  by_cases hl : c ≤ n
  · exact key c hl
  · rw [hce c (by omega), hf c (by omega)]; exact key n (Nat.le_refl _)
/-- the one __init__ of the errors, as it is written -/
structure InitSh (params : Arguments) (body : List Stmt) (scope : Scope) : Prop where
  ex : ∃ p0 p1 p2 pe pos pos2 pos3 q1 q2 q3 : Pos, body = [.Expr (.Call (.Attribute (.Call (.Name "super" p0) [] [] p1) "__init__" p2) [.Name "value" pe] [] pos) pos2, .Assign [.Attribute (.Name "self" q1) "value" q2] (.Name "value" q3) pos3] ∧
    (∀ env : PySem.Env, (∃ pl : Sem Bool, eval (.Call (.Attribute (.Call (.Name "super" p0) [] [] p1) "__init__" p2) [.Name "value" pe] [] pos) env = (do
      let ov ← attributeBase (.Call (.Name "super" p0) [] [] p1) "__init__" env (eval (.Call (.Name "super" p0) [] [] p1) env)
      standAt p2.atName
      let (f, first) ← holding [ov] (getMethod ov "__init__" pl)
      callWith pos f first (backTo pos (starEach [.Name "value" pe] env)) [])) ∧
      swapsWith (.Call (.Attribute (.Call (.Name "super" p0) [] [] p1) "__init__" p2) [.Name "value" pe] [] pos) none pos2.line env = pure false ∧
      swapsWith (.Name "value" q3) (some (.Attribute (.Name "self" q1) "value" q2)) pos3.line env = pure false)
  self : (params.posonlyargs ++ params.args).head?.map (·.arg) = some "self"
  sc : NdefX.NScope nI pI ["__class__"] scope
  sup : scope.names.lookup ("super" : Str) = some .globalImplicit
  bind : ∀ (name qual : Str) (cl : List (Str × Addr)) (kV doc pm cdv ct : Value) (an : Option Addr) (us : List Value), us.length = 2 → bindArgs (PySem.W.fnX name qual params body scope cl .none kV doc pm an cdv ct) ⟨us, []⟩ = pure (pI.zip us)
def initB (P : Program) (K : PySem.W.Frag) (D f : Addr) (qual : Str) : Bool := match K.lookup f with
  | some ⟨_, _, .func fd, _⟩ => (match fd.closure, fd.code with
    | [(_, cc)], .ref cda => decide (fd.defaults = Value.none) && (PySem.W.codeIn K (.ref cda) qual && ((match K.lookup cda with
      | some ⟨_, _, .fields vs, _⟩ => (match vs[2]? with
        | some (Value.str file _) => ((P.main.file : Str) == file)
        | _ => false)
      | _ => false) && ((match K.lookup cc with
      | some ⟨_, _, .cell (some (.ref D')), _⟩ => D' == D
      | _ => false) && (PySem.W.clsIn K D).isSome)))
    | _, _ => false)
  | _ => false
theorem DefA.ini {P : Program} {K : PySem.W.Frag} {mg : Str → Option Value} {D : Addr} {d : DefA} (e : fnA K (d.ad K) = d.val) (hc : d.clo = (["__class__"] : List Str)) (c : initB P K D (d.ad K) d.qual = true) (sh : InitSh d.params d.body d.scope) :
    ∃ st1 st2, InitF P K mg D (d.ad K) (fdOf K (d.ad K)) st1 st2 ∧ Binds K (fdOf K (d.ad K)) pI [] := by
  obtain ⟨⟨p0, p1, p2, pe, pos, pos2, pos3, q1, q2, q3, hb, hev⟩, hself, hsc, hsup, hbind⟩ := sh
  unfold fnA at e
  unfold initB at c
  cases q : K.lookup (d.ad K) with
  | none => rw [q] at c; cases c
  | some o =>
    obtain ⟨oc, od, dt, sl⟩ := o
    rw [q] at c e
    cases dt with
    | func fd =>
      have hfd : fdOf K (d.ad K) = fd := by unfold fdOf; rw [q]
      rw [hfd]
      obtain ⟨m1, m2, m3, m4, m5, m6, m7, m8, m9, m10, m11, m12, m13, m14, m15⟩ := fd
      have e2 : (some (m1, m2, m3, m4, m5, m6, m7.map (·.1), m15) : FnE) = some (d.name, d.qual, d.params, .stmts d.body, d.scope, mainGlobals, d.clo, builtinsNs) := e
      simp only [Option.some.injEq, Prod.mk.injEq] at e2
      obtain ⟨y1, y2, y3, y4, y5, y6, y7, y8⟩ := e2
      rw [hc] at y7
      obtain ⟨nm, cc, rfl⟩ : ∃ nm cc, m7 = [(nm, cc)] := by
        cases m7 with
        | nil => cases y7
        | cons a r =>
          cases r with
          | nil => exact ⟨a.1, a.2, rfl⟩
          | cons b s => simp at y7
      have nm_ : nm = ("__class__" : Str) := by simpa using y7
      subst y1 y2 y3 y4 y5 y6 y8 nm_
      simp only at c
      cases m13 with
      | ref cda =>
        simp only at c
        obtain ⟨c0, cx⟩ := ba c
        have c0 : m8 = Value.none := of_decide_eq_true c0
        subst c0
        obtain ⟨c1, c⟩ := ba cx
        obtain ⟨c2, c⟩ := ba c
        obtain ⟨c3, c4⟩ := ba c
        obtain ⟨cdD, hD⟩ := Option.isSome_iff_exists.mp c4
        cases z2 : K.lookup cda with
        | none => rw [z2] at c2; cases c2
        | some o2 =>
          obtain ⟨oc2, od2, dt2, sl2⟩ := o2
          rw [z2] at c2
          cases dt2 with
          | fields vs =>
            simp only at c2
            cases z3 : vs[2]? with
            | none => rw [z3] at c2; cases c2
            | some v3 =>
              rw [z3] at c2
              cases v3 with
              | str file tf =>
                cases z4 : K.lookup cc with
                | none => rw [z4] at c3; cases c3
                | some o4 =>
                  obtain ⟨oc4, od4, dt4, sl4⟩ := o4
                  rw [z4] at c3
                  cases dt4 with
                  | cell v4 =>
                    cases v4 with
                    | none => cases c3
                    | some v4 =>
                      cases v4 with
                      | ref D' =>
                        have hDD : D' = D := beq_iff_eq.mp c3
                        subst hDD
                        refine ⟨_, _, ⟨d.name, d.qual, d.params, d.scope, cc, cda, .none, m9, m10, m11, m14, oc, oc2, oc4, m12, od2, od4, od, sl, sl2, sl4, vs, file, tf, cdD, p0, p1, p2, pe, pos, pos2, pos3, q1, q2, q3, ?_, q, c1, z2, z3, c2, z4, hD, hself, rfl, rfl, hsc, hsup, hev⟩, L2.Binds.all fun us hl => ?_⟩
                        · rw [hb]
                        · exact hbind _ _ _ _ _ _ _ _ _ us hl
                      | _ => cases c3
                  | _ => cases c3
              | _ => cases c2
          | _ => cases c2
      | _ => cases c
    | _ => cases c
theorem SaysP.ini {P : Program} {mg : Str → Option Value} {D : Addr} {ds : List DefA} {ex : PySem.W.Frag → Bool} {K : PySem.W.Frag} (c : SaysP ds ex K) (i : Nat) {d : DefA} (sh : InitSh d.params d.body d.scope) (b : initB P K D (d.ad K) d.qual = true) (h : ds[i]? = some d := by rfl) (hcl : d.clo = (["__class__"] : List Str) := by rfl) :
    ∃ st1 st2, InitF P K mg D (d.ad K) (fdOf K (d.ad K)) st1 st2 ∧ Binds K (fdOf K (d.ad K)) pI [] := by
  have e2 : (ds.map fun d => fnA K (d.ad K))[i]? = (ds.map DefA.val)[i]? := by rw [c.val]
  rw [List.getElem?_map, List.getElem?_map, h] at e2
  exact DefA.ini (Option.some.inj e2) hcl b sh
/-- what is told of a class of errors -/
structure ErrT (P : Program) (K : PySem.W.Frag) (mg : Str → Option Value) (D f C : Addr) : Prop where
  c : ErrC K D C
  i1 : PySem.W.findIn K (.ref C) "__init__" = some (some (.ref f))
  i2 : PySem.W.typeIn K (.ref f) = some (.type "function")
def errTB (K : PySem.W.Frag) (D f C : Addr) : Bool := errB K D C && (eqO (PySem.W.findIn K (.ref C) "__init__") (some (some (.ref f))) && decide (PySem.W.typeIn K (.ref f) = some (.type "function")))
theorem errTB_ok {P : Program} {K : PySem.W.Frag} {mg : Str → Option Value} {D f C : Addr} (h : errTB K D f C = true) : ErrT P K mg D f C := by
  obtain ⟨h1, h⟩ := ba h
  obtain ⟨h2, h3⟩ := ba h
  exact ⟨errB_ok h1, eqO_ok h2, of_decide_eq_true h3⟩
theorem mkE_of {P : Program} {w : World} {K : PySem.W.Frag} {mg : Str → Option Value} {base : PySem.Heap} {k : Nat} {D f C : Addr} (I : ∃ st1 st2, InitF P K mg D f (fdOf K f) st1 st2 ∧ Binds K (fdOf K f) pI []) (T : ErrT P K mg D f C)
    (hms : mg "super" = none) (ho : PySem.W.nsIn K PySem.cStatics "thirdparty.any" = some none) (htop : (P.main.scope.names.lookup ("super" : Str)).isSome = false) : MkE P w K mg base (k + 1) C := by
  obtain ⟨st1, st2, F, b⟩ := I
  exact ⟨D, f, _, T.c, T.i1, T.i2, b, fun CX => init_fn F hms ho htop (by rfl)⟩
/-- flat constants of the top -/
def dvD : Dv → Option D
  | _ => none
theorem fld_inj {a b : String} (h : Str.ofString a = Str.ofString b) : a = b := by
  have e := congrArg (fun z : Str => z.cps.toList) h
  simp only [Str.ofString, cpsOfBytes_string] at e
  have inj : ∀ x y : Char, x.toNat = y.toNat → x = y := fun x y q => by
    apply Char.ext
    apply UInt32.toNat_inj.mp
    exact q
  have go : ∀ l m : List Char, l.map Char.toNat = m.map Char.toNat → l = m := by
    intro l
    induction l with
    | nil => intro m q; cases m with
      | nil => rfl
      | cons y m => simp at q
    | cons x l ih => intro m q; cases m with
      | nil => simp at q
      | cons y m =>
        simp only [List.map_cons, List.cons.injEq] at q
        rw [inj x y q.1, ih m q.2]
  exact String.ext (go _ _ (by simpa using e))
theorem strC {h : PySem.Heap} {mg : Str → Option Value} (X : K.In h) (G : h.Ns mainGlobals mg) {x z : Str} {s : Txt} (e : z = toStr s) (o : okT s) (c : (Fa.str x z).ok K = true) : ∃ u v, mg x = some u ∧ RelV v u ∧ ∀ α H, Rep K α H (.str s) v := by
  obtain ⟨t, hm⟩ := str_ok X G c
  exact ⟨_, .str z, hm, ⟨t, rfl⟩, fun α H => by rw [e]; exact r_str o⟩
theorem intC {h : PySem.Heap} {mg : Str → Option Value} (X : K.In h) (G : h.Ns mainGlobals mg) {x : Str} {i : Int} (c : (Fa.int x i).ok K = true) : ∃ u v, mg x = some u ∧ RelV v u ∧ ∀ α H, Rep K α H (.int i) v := by
  obtain ⟨t, hm⟩ := int_ok X G c
  exact ⟨_, .int i, hm, ⟨t, rfl⟩, fun α H => r_int⟩
theorem tupC {h : PySem.Heap} {mg : Str → Option Value} (X : K.In h) (G : h.Ns mainGlobals mg) {x : Str} {vs : List Dv} {ds : List D} (r : ∀ α H, Reps K α H ds (vs.map (Dv.v K))) (c : ((Fa.glo x).ok K && tupB K x vs) = true) : ∃ u v, mg x = some u ∧ RelV v u ∧ ∀ α H, Rep K α H (.tup ds) v := by
  obtain ⟨c1, c2⟩ := ba c
  refine ⟨_, .ref (ga K x), glo_ok X G c1, rfl, fun α H => ?_⟩
  simp only [Rep]
  exact ⟨_, _, rfl, tupB_ok c2 H, r α H⟩
theorem reps_nil {α : List Addr} {H : Hp} : Reps K α H [] ([].map (Dv.v K)) := by simp only [List.map_nil, Reps]
theorem reps_str {α : List Addr} {H : Hp} {s : Txt} {z : Str} {ds : List D} {vs : List Dv} (e : z = toStr s) (o : okT s) (r : Reps K α H ds (vs.map (Dv.v K))) : Reps K α H (.str s :: ds) ((Dv.str z :: vs).map (Dv.v K)) := by
  simp only [List.map_cons, Reps]
  exact ⟨_, _, rfl, by show Rep K α H (.str s) (.str z); rw [e]; exact r_str o, r⟩
theorem reps_int {α : List Addr} {H : Hp} {i : Int} {ds : List D} {vs : List Dv} (r : Reps K α H ds (vs.map (Dv.v K))) : Reps K α H (.int i :: ds) ((Dv.int i :: vs).map (Dv.v K)) := by
  simp only [List.map_cons, Reps]
  exact ⟨_, _, rfl, r_int, r⟩
end
end IR
end

section
set_option linter.all false
namespace Lw
open IR
/-! what nearly all laws draw by: the same defs in each of them, under fixed numbers -/
/-- law_take(_law_pot_here, _law_upto) : 0 _law_pot_here, 1 _law_upto, 2 _law_prime, 3 _law_mixed, 4 _law_digit -/
def b_law_take (κ : Kap) : SS := s_cons (s_if (t_b (e_2 o_gt (e_2 o_item (e_var 0) (e_c (.int 0))) (e_c (.int 0)))) (s_cons (s_asg (e_2 o_mod (e_call b_int (a_cons (e_2 o_item (e_var 0) (e_c (.int 0))) (a_nil))) (e_var 1)) (g_name 4)) (
  s_cons (s_put p_list (e_var 0) (e_c (.int 0)) (e_2 o_fdiv (e_2 o_item (e_var 0) (e_c (.int 0))) (e_var 1))) (
  s_ret (e_var 4)))) (s_nil)) (
  s_cons (s_put p_list (e_var 0) (e_c (.int 2)) (e_2 o_add (e_2 o_item (e_var 0) (e_c (.int 2))) (e_c (.int 1)))) (
  s_cons (s_asg (e_2 o_item (e_lst (a_cons (e_c (.int 2147483647)) (a_cons (e_c (.int 2147483629)) (a_cons (e_c (.int 2147483587)) (a_cons (e_c (.int 2147483579)) (a_cons (e_c (.int 2147483563)) (a_nil))))))) (e_2 o_mod (e_call b_int (a_cons (e_2 o_item (e_var 0) (e_c (.int 2))) (a_nil))) (e_c (.int 5)))) (g_name 2)) (
  s_cons (s_asg (e_2 o_mod (e_call b_int (a_cons (e_2 o_pow (e_call b_int (a_cons (e_2 o_add (e_2 o_add (e_2 o_item (e_var 0) (e_c (.int 1))) (e_2 o_mul (e_2 o_mul (e_c (.int 104729)) (e_2 o_item (e_var 0) (e_c (.int 2)))) (e_2 o_item (e_var 0) (e_c (.int 2))))) (e_c (.int 29))) (a_nil))) (e_c (.int 3))) (a_nil))) (e_var 2)) (g_name 3)) (
  s_cons (s_asg (e_2 o_mod (e_call b_int (a_cons (e_2 o_mul (e_var 3) (e_2 o_add (e_2 o_mod (e_call b_int (a_cons (e_var 3) (a_nil))) (e_c (.int 10007))) (e_2 o_mul (e_c (.int 97)) (e_2 o_item (e_var 0) (e_c (.int 2)))))) (a_nil))) (e_c (.int 2305843009213693907))) (g_name 3)) (
  s_ret (e_2 o_mod (e_call b_int (a_cons (e_2 o_fdiv (e_var 3) (e_c (.int 113))) (a_nil))) (e_var 1)))))))
def d_law_take : Def := ⟨2, 5, b_law_take⟩
/-- law_of(_law_pot_here, _law_some) : 0 _law_pot_here, 1 _law_some -/
def b_law_of (κ : Kap) : SS := s_ret (e_2 o_item (e_var 1) (e_call (κ.fn 0) (a_cons (e_var 0) (a_cons (e_call b_len (a_cons (e_var 1) (a_nil))) (a_nil)))))
def d_law_of : Def := ⟨2, 2, b_law_of⟩
/-- law_pot(_law_script, _law_k) : 0 _law_script, 1 _law_k, 2 _law_cell, 3 _law_own, 4 _law_small -/
def b_law_pot (κ : Kap) : SS := s_cons (s_asg (e_if (t_b (e_2 o_lt (e_var 1) (e_call b_len (a_cons (e_var 0) (a_nil))))) (e_2 o_item (e_var 0) (e_var 1)) (e_2 o_add (e_2 o_mul (e_c (.int 37)) (e_var 1)) (e_c (.int 11)))) (g_name 2)) (
  s_cons (s_asg (e_2 o_mul (e_2 o_mod (e_call b_int (a_cons (e_call b_abs (a_cons (e_var 2) (a_nil))) (a_nil))) (e_2 o_pow (e_2 o_pow (e_c (.int 10)) (e_c (.int 60))) (e_c (.int 5)))) (e_call b_int (a_cons (e_2 o_ge (e_call b_abs (a_cons (e_var 2) (a_nil))) (e_2 o_pow (e_c (.int 10)) (e_c (.int 18)))) (a_nil)))) (g_name 3)) (
  s_cons (s_asg (e_2 o_mod (e_call b_int (a_cons (e_var 2) (a_nil))) (e_c (.int 2305843009213693951))) (g_name 4)) (
  s_ret (e_lst (a_cons (e_var 3) (a_cons (e_2 o_mod (e_call b_int (a_cons (e_2 o_add (e_2 o_add (e_2 o_mul (e_var 4) (e_c (.int 70657))) (e_2 o_mul (e_2 o_mul (e_c (.int 7927)) (e_var 1)) (e_var 1))) (e_c (.int 97))) (a_nil))) (e_c (.int 2305843009213693921))) (a_cons (e_c (.int 0)) (a_nil))))))))
def d_law_pot : Def := ⟨2, 5, b_law_pot⟩
/-- law_ordered(_law_rows) : 0 _law_rows, 1 _law_found, 2 _law_row, 3 _law_at -/
def b_law_ordered (κ : Kap) : SS := s_cons (s_asg (e_lst (a_nil)) (g_name 1)) (
  s_cons (s_for (i_list (e_var 0)) (g_name 2) (s_if (t_b (e_2 o_notin (e_var 2) (e_var 1))) (s_cons (s_asg (e_c (.int 0)) (g_name 3)) (
  s_cons (s_while (t_and (t_b (e_2 o_lt (e_var 3) (e_call b_len (a_cons (e_var 1) (a_nil))))) (t_b (e_2 o_lt (e_2 o_item (e_var 1) (e_var 3)) (e_var 2)))) (s_asg (e_2 o_add (e_var 3) (e_c (.int 1))) (g_name 3))) (
  s_expr (e_lm3 m_insert (e_var 1) (e_var 3) (e_var 2))))) (s_nil))) (
  s_ret (e_var 1)))
def d_law_ordered : Def := ⟨1, 4, b_law_ordered⟩
/-- law_word(_law_pot_here) : 0 _law_pot_here, 1 _law_word_here, 2 _law_lap -/
def b_law_word (κ : Kap) : SS := s_cons (s_asg (e_c (.str [])) (g_name 1)) (
  s_cons (s_for (i_rng1 (e_2 o_add (e_c (.int 1)) (e_call (κ.fn 0) (a_cons (e_var 0) (a_cons (e_c (.int 8)) (a_nil)))))) (g_name 2) (s_asg (e_2 o_add (e_var 1) (e_2 o_item (e_c (.str [97, 98, 99, 100, 101, 102, 103, 104, 105, 106, 107, 108, 109, 110, 111, 112, 113, 114, 115, 116, 117, 118, 119, 120, 121, 122])) (e_call (κ.fn 0) (a_cons (e_var 0) (a_cons (e_c (.int 26)) (a_nil)))))) (g_name 1))) (
  s_ret (e_2 o_add (e_var 1) (e_2 o_mul (e_c (.str [120])) (e_call b_int (a_cons (e_2 o_in (e_var 1) (e_tup (a_cons (e_c (.str [110, 101, 120, 116])) (a_cons (e_c (.str [109, 111, 114, 101])) (a_cons (e_c (.str [110, 111, 116])) (a_cons (e_c (.str [115, 97, 109, 101])) (a_cons (e_c (.str [108, 101, 115, 115])) (a_cons (e_c (.str [97, 110, 100])) (a_cons (e_c (.str [111, 114])) (a_nil)))))))))) (a_nil)))))))
def d_law_word : Def := ⟨1, 3, b_law_word⟩
/-- law_odd(_law_pot_here) : 0 _law_pot_here, 1 _law_some -/
def b_law_odd (κ : Kap) : SS := s_cons (s_asg (e_lst (a_cons (e_c .non) (a_cons (e_c (.bl true)) (a_cons (e_c (.bl false)) (a_cons (e_c (.int 0)) (a_cons (e_c (.int 1)) (a_cons (e_1 o_neg (e_c (.int 1))) (a_cons (e_c (.int 2)) (a_cons (e_c (.int 3)) (a_cons (e_c (.int 9)) (a_cons (e_c (.int 10)) (a_cons (e_1 o_neg (e_2 o_pow (e_c (.int 10)) (e_c (.int 20)))) (a_cons (e_2 o_pow (e_c (.int 10)) (e_c (.int 20))) (a_cons (e_c (.str [])) (a_cons (e_c (.str [97])) (a_cons (e_c (.str [120])) (a_cons (e_c (.str [108, 111, 103])) (a_nil)))))))))))))))))) (g_name 1)) (
  s_cons (s_expr (e_lm m_extend (e_var 1) (e_lst (a_cons (e_c (.str [76, 111, 103])) (a_cons (e_c (.str [97, 32, 98])) (a_cons (e_c (.str [115, 97, 109, 101])) (a_cons (e_c (.str [115, 116, 97, 110, 100, 115])) (a_cons (e_c (.str [112, 97, 114, 116, 115])) (a_cons (e_c (.str [97, 98, 99, 100, 101, 102, 103, 104])) (a_cons (e_c (.str [97, 98, 99, 100, 101, 102, 103, 104, 105])) (a_cons (e_c (.str [110, 101, 120, 116])) (a_cons (e_tup (a_nil)) (a_cons (e_lst (a_nil)) (a_cons (e_dic0) (a_nil))))))))))))))) (
  s_cons (s_expr (e_lm m_extend (e_var 1) (e_lst (a_cons (e_tup (a_cons (e_c (.str [108, 111, 103])) (a_nil))) (a_cons (e_lst (a_cons (e_c (.str [108, 111, 103])) (a_nil))) (a_cons (e_tup (a_cons (e_c (.str [98])) (a_cons (e_c (.str [97])) (a_nil)))) (a_cons (e_tup (a_cons (e_c (.str [97])) (a_cons (e_c (.str [97])) (a_nil)))) (a_cons (e_tup (a_cons (e_c (.str [97])) (a_cons (e_c (.str [98])) (a_nil)))) (a_cons (e_disp [(e_c (.str [97]), e_c (.int 1))]) (a_cons (e_tup (a_cons (e_tup (a_nil)) (a_cons (e_tup (a_nil)) (a_nil)))) (a_cons (e_tup (a_cons (e_tup (a_nil)) (a_cons (e_tup (a_nil)) (a_cons (e_tup (a_nil)) (a_nil))))) (a_nil)))))))))))) (
  s_cons (s_expr (e_lm m_extend (e_var 1) (e_lst (a_cons (e_tup (a_cons (e_c (.str [115, 97, 109, 101])) (a_cons (e_tup (a_nil)) (a_nil)))) (a_cons (e_tup (a_cons (e_c (.str [112, 97, 114, 116, 115])) (a_cons (e_tup (a_nil)) (a_nil)))) (a_cons (e_tup (a_cons (e_c (.str [115, 116, 97, 110, 100, 115])) (a_cons (e_tup (a_cons (e_tup (a_nil)) (a_cons (e_tup (a_nil)) (a_nil)))) (a_nil)))) (a_cons (e_tup (a_cons (e_tup (a_cons (e_tup (a_cons (e_tup (a_cons (e_c (.int 1)) (a_nil))) (a_nil))) (a_nil))) (a_nil))) (a_cons (e_lst (a_cons (e_lst (a_cons (e_tup (a_cons (e_c (.str [120])) (a_cons (e_c (.int 1)) (a_nil)))) (a_nil))) (a_cons (e_tup (a_nil)) (a_nil)))) (a_nil))))))))) (
  s_cons (s_expr (e_lm m_extend (e_var 1) (e_lst (a_cons (e_tup (a_cons (e_c (.str [103, 111])) (a_cons (e_tup (a_nil)) (a_nil)))) (a_cons (e_tup (a_cons (e_tup (a_cons (e_c (.str [103, 111])) (a_cons (e_tup (a_nil)) (a_nil)))) (a_nil))) (a_cons (e_tup (a_cons (e_c (.int 0)) (a_nil))) (a_cons (e_tup (a_cons (e_c (.bl true)) (a_nil))) (a_cons (e_tup (a_cons (e_c .non) (a_nil))) (a_cons (e_tup (a_cons (e_c (.str [120])) (a_cons (e_lst (a_nil)) (a_nil)))) (a_nil)))))))))) (
  s_ret (e_call (κ.fn 1) (a_cons (e_var 0) (a_cons (e_var 1) (a_nil)))))))))
def d_law_odd : Def := ⟨1, 2, b_law_odd⟩
/-- law_changed(_law_pot_here, _law_value) : 0 _law_pot_here, 1 _law_value, 2 _law_found -/
def b_law_changed (κ : Kap) : SS := s_cons (s_asg (e_call (κ.fn 7) (a_cons (e_var 0) (a_cons (e_var 1) (a_cons (e_c (.int 0)) (a_nil))))) (g_name 2)) (
  s_ret (e_if (t_b (e_2 o_ne (e_call (b_repr κ) (a_cons (e_var 2) (a_nil))) (e_call (b_repr κ) (a_cons (e_var 1) (a_nil))))) (e_var 2) (e_tup (a_cons (e_var 1) (a_nil)))))
def d_law_changed : Def := ⟨2, 3, b_law_changed⟩
/-- law_changed_in(_law_pot_here, _law_value, _law_deep) : 0 _law_pot_here, 1 _law_value, 2 _law_deep, 3 _law_spot -/
def b_law_changed_in (sub : Nat → Nat → Bool) (κ : Kap) : SS := s_cons (s_if (t_not (t_e (e_1 (o_isa sub .tTuple) (e_var 1)))) (s_ret (e_call (κ.fn 9) (a_cons (e_var 0) (a_cons (e_var 1) (a_nil))))) (s_nil)) (
  s_cons (s_if (t_or (t_b (e_2 o_eq (e_var 1) (e_tup (a_nil)))) (t_or (t_b (e_2 o_gt (e_var 2) (e_c (.int 7)))) (t_b (e_2 o_eq (e_call (κ.fn 0) (a_cons (e_var 0) (a_cons (e_c (.int 4)) (a_nil)))) (e_c (.int 0)))))) (s_ret (e_call (κ.fn 8) (a_cons (e_var 0) (a_cons (e_var 1) (a_nil))))) (s_nil)) (
  s_cons (s_asg (e_call (κ.fn 0) (a_cons (e_var 0) (a_cons (e_call b_len (a_cons (e_var 1) (a_nil))) (a_nil)))) (g_name 3)) (
  s_ret (e_2 o_add (e_2 o_add (e_slice (e_var 1) so_none (so_some (e_var 3))) (e_tup (a_cons (e_call (κ.fn 7) (a_cons (e_var 0) (a_cons (e_2 o_item (e_var 1) (e_var 3)) (a_cons (e_2 o_add (e_var 2) (e_c (.int 1))) (a_nil))))) (a_nil)))) (e_slice (e_var 1) (so_some (e_2 o_add (e_var 3) (e_c (.int 1)))) so_none)))))
def d_law_changed_in (sub : Nat → Nat → Bool) : Def := ⟨3, 4, b_law_changed_in sub⟩
/-- law_changed_row(_law_pot_here, _law_value) : 0 _law_pot_here, 1 _law_value, 2 _law_way, 3 _law_spot -/
def b_law_changed_row (κ : Kap) : SS := s_cons (s_par 2 3 (e_call (κ.fn 0) (a_cons (e_var 0) (a_cons (e_c (.int 9)) (a_nil)))) (e_call (κ.fn 0) (a_cons (e_var 0) (a_cons (e_2 o_add (e_call b_len (a_cons (e_var 1) (a_nil))) (e_c (.int 1))) (a_nil))))) (
  s_cons (s_if (t_and (t_b (e_2 o_eq (e_var 2) (e_c (.int 0)))) (t_b (e_2 o_ne (e_var 1) (e_tup (a_nil))))) (s_ret (e_if (t_b (e_2 o_lt (e_var 3) (e_call b_len (a_cons (e_var 1) (a_nil))))) (e_2 o_add (e_slice (e_var 1) so_none (so_some (e_var 3))) (e_slice (e_var 1) (so_some (e_2 o_add (e_var 3) (e_c (.int 1)))) so_none)) (e_slice (e_var 1) so_none (so_some (e_1 o_neg (e_c (.int 1))))))) (s_nil)) (
  s_cons (s_if (t_b (e_2 o_eq (e_var 2) (e_c (.int 1)))) (s_ret (e_2 o_add (e_2 o_add (e_slice (e_var 1) so_none (so_some (e_var 3))) (e_slice (e_var 1) (so_some (e_var 3)) (so_some (e_2 o_add (e_var 3) (e_c (.int 1)))))) (e_slice (e_var 1) (so_some (e_var 3)) so_none))) (s_nil)) (
  s_cons (s_if (t_b (e_2 o_eq (e_var 2) (e_c (.int 2)))) (s_ret (e_1 o_rev (e_var 1))) (s_nil)) (
  s_cons (s_if (t_b (e_2 o_eq (e_var 2) (e_c (.int 3)))) (s_ret (e_call b_list (a_cons (e_var 1) (a_nil)))) (s_nil)) (
  s_cons (s_if (t_b (e_2 o_eq (e_var 2) (e_c (.int 4)))) (s_ret (e_2 o_add (e_2 o_add (e_slice (e_var 1) so_none (so_some (e_var 3))) (e_tup (a_cons (e_call (κ.fn 5) (a_cons (e_var 0) (a_nil))) (a_nil)))) (e_slice (e_var 1) (so_some (e_var 3)) so_none))) (s_nil)) (
  s_cons (s_if (t_and (t_b (e_2 o_eq (e_var 2) (e_c (.int 5)))) (t_b (e_2 o_lt (e_2 o_add (e_var 3) (e_c (.int 1))) (e_call b_len (a_cons (e_var 1) (a_nil)))))) (s_ret (e_2 o_add (e_2 o_add (e_slice (e_var 1) so_none (so_some (e_var 3))) (e_tup (a_cons (e_2 o_item (e_var 1) (e_2 o_add (e_var 3) (e_c (.int 1)))) (a_cons (e_2 o_item (e_var 1) (e_var 3)) (a_nil))))) (e_slice (e_var 1) (so_some (e_2 o_add (e_var 3) (e_c (.int 2)))) so_none))) (s_nil)) (
  s_cons (s_if (t_and (t_b (e_2 o_eq (e_var 2) (e_c (.int 6)))) (t_b (e_2 o_ne (e_var 1) (e_tup (a_nil))))) (s_ret (e_2 o_add (e_2 o_add (e_slice (e_var 1) so_none (so_some (e_var 3))) (e_tup (a_cons (e_call (κ.fn 1) (a_cons (e_var 0) (a_cons (e_var 1) (a_nil)))) (a_nil)))) (e_slice (e_var 1) (so_some (e_var 3)) so_none))) (s_nil)) (
  s_ret (e_if (t_b (e_2 o_eq (e_var 2) (e_c (.int 7)))) (e_slice (e_var 1) (so_some (e_c (.int 1))) so_none) (e_call (κ.fn 5) (a_cons (e_var 0) (a_nil))))))))))))
def d_law_changed_row : Def := ⟨2, 4, b_law_changed_row⟩
/-- law_changed_leaf(_law_pot_here, _law_value) : 0 _law_pot_here, 1 _law_value, 2 _law_way, 3 _law_near -/
def b_law_changed_leaf (sub : Nat → Nat → Bool) (κ : Kap) : SS := s_cons (s_asg (e_call (κ.fn 0) (a_cons (e_var 0) (a_cons (e_c (.int 8)) (a_nil)))) (g_name 2)) (
  s_cons (s_if (t_or (t_e (e_1 (o_isa sub .tBool) (e_var 1))) (t_not (t_e (e_1 (o_isa2 sub .tInt .tStr) (e_var 1))))) (s_ret (e_call (κ.fn 5) (a_cons (e_var 0) (a_nil)))) (s_nil)) (
  s_cons (s_if (t_e (e_1 (o_isa sub .tInt) (e_var 1))) (s_cons (s_asg (e_lst (a_cons (e_2 o_add (e_var 1) (e_c (.int 1))) (a_cons (e_2 o_sub (e_var 1) (e_c (.int 1))) (a_cons (e_2 o_sub (e_1 o_neg (e_c (.int 1))) (e_var 1)) (a_cons (e_2 o_eq (e_var 1) (e_c (.int 1))) (a_cons (e_call b_str (a_cons (e_var 1) (a_nil))) (a_cons (e_tup (a_cons (e_var 1) (a_nil))) (a_cons (e_2 o_add (e_var 1) (e_2 o_pow (e_c (.int 10)) (e_c (.int 20)))) (a_nil))))))))) (g_name 3)) (
  s_ret (e_if (t_b (e_2 o_lt (e_var 2) (e_c (.int 7)))) (e_2 o_item (e_var 3) (e_var 2)) (e_call (κ.fn 5) (a_cons (e_var 0) (a_nil)))))) (s_nil)) (
  s_cons (s_asg (e_lst (a_cons (e_2 o_add (e_var 1) (e_c (.str [120]))) (a_cons (e_slice (e_var 1) so_none (so_some (e_1 o_neg (e_c (.int 1))))) (a_cons (e_slice (e_var 1) (so_some (e_c (.int 1))) so_none) (a_cons (e_1 o_upper (e_var 1)) (a_cons (e_tup (a_cons (e_var 1) (a_nil))) (a_cons (e_2 o_add (e_c (.str [120])) (e_var 1)) (a_cons (e_2 o_add (e_var 1) (e_c (.str [32]))) (a_nil))))))))) (g_name 3)) (
  s_ret (e_if (t_b (e_2 o_lt (e_var 2) (e_c (.int 7)))) (e_2 o_item (e_var 3) (e_var 2)) (e_call (κ.fn 5) (a_cons (e_var 0) (a_nil))))))))
def d_law_changed_leaf (sub : Nat → Nat → Bool) : Def := ⟨2, 4, b_law_changed_leaf sub⟩
/-- a program of ours with these defs -/
class Has (P : Prog) : Prop where
  take : P.defs 0 = some d_law_take
  of_ : P.defs 1 = some d_law_of
  pot : P.defs 2 = some d_law_pot
class HasW (P : Prog) : Prop where
  ordered : P.defs 3 = some d_law_ordered
  word : P.defs 4 = some d_law_word
class HasO (P : Prog) : Prop where
  odd : P.defs 5 = some d_law_odd
class HasC (P : Prog) (sub : outParam (Nat → Nat → Bool)) : Prop where
  changed : P.defs 6 = some d_law_changed
  changed_in : P.defs 7 = some (d_law_changed_in sub)
  changed_row : P.defs 8 = some d_law_changed_row
  changed_leaf : P.defs 9 = some (d_law_changed_leaf sub)
end Lw
end

section
set_option linter.all false
set_option autoImplicit false
set_option maxRecDepth 100000
namespace Lw
open IR
/-- a pot from which at most k draws were made -/
def Pot (k : Nat) (l : List D) : Prop := ∃ a b c : Int, l = [.int a, .int b, .int c] ∧ 0 ≤ a ∧ 0 ≤ b ∧ b < 2305843009213693952 ∧ 0 ≤ c ∧ c ≤ k
theorem Pot.pure {k : Nat} {l : List D} (h : Pot k l) : (LO.lst l).pure = true := by
  obtain ⟨a, b, c, rfl, _⟩ := h
  rfl
theorem Pot.mono {j k : Nat} {l : List D} (h : Pot j l) (hk : j ≤ k) : Pot k l := by
  obtain ⟨a, b, c, e, h1, h2, h3, h4, h5⟩ := h
  exact ⟨a, b, c, e, h1, h2, h3, h4, by omega⟩
variable {P : Prog} [Has P]
theorem take_big (n : Nat) (h : Heap) (p : Nat) (a b c u : Int) (hp : h[p]? = some (.lst [.int a, .int b, .int c])) (ha : 0 < a) (hu : 0 < u) (hu2 : u < 1073741824) :
    callF P (n + 4) 0 [.ref p, .int u] h = .ok (.int (a % u)) (h.set p (.lst [.int (a / u), .int b, .int c])) := by
  rw [callF_succ _ _ _ _ _ d_law_take Has.take]
  have hpl := get_lt hp
  simp [runDef, d_law_take, b_law_take, s_cons, s_if, s_asg, s_put, s_ret, s_nil, t_b, e_2, e_var, e_c, e_call, a_cons, a_nil, o_item, items, hp, atI, ixN, liftO_some, o_gt, okB, asB, ha, gcB_self, b_int, o_mod, hu, gc_int, g_name, o_fdiv, hu2, p_list, Flow.then, List.set]
  rw [gc_set0 rfl rfl]
/-- the primes -/
def primes : List D := [.int 2147483647, .int 2147483629, .int 2147483587, .int 2147483579, .int 2147483563]
theorem prime_at (i : Int) (h0 : 0 ≤ i) (h5 : i < 5) : ∃ q : Int, atI primes i = some (.int q) ∧ 0 < q ∧ q < 2147483648 := by
  have : i = 0 ∨ i = 1 ∨ i = 2 ∨ i = 3 ∨ i = 4 := by omega
  rcases this with rfl | rfl | rfl | rfl | rfl <;> exact ⟨_, rfl, by decide, by decide⟩
theorem log_small {i : Int} (h0 : 0 ≤ i) (h1 : i < 1180591620717411303424) : i.natAbs.log2 < 4096 := by
  by_cases hz : i.natAbs = 0
  · rw [hz]; decide
  · have h2 : i.natAbs.log2 < 70 := (Nat.log2_lt hz).mpr (by
      have : (2 : Nat) ^ 70 = 1180591620717411303424 := by decide
      omega)
    omega
theorem take_small (n : Nat) (h : Heap) (p : Nat) (a b c u : Int) (hp : h[p]? = some (.lst [.int a, .int b, .int c])) (ha : ¬ 0 < a) (hb : 0 ≤ b) (hb2 : b < 2305843009213693952) (hc : 0 ≤ c) (hc2 : c < 1000000) (hu : 0 < u) (hu2 : u < 1073741824) :
    ∃ d, callF P (n + 4) 0 [.ref p, .int u] h = .ok (.int d) (h.set p (.lst [.int a, .int b, .int (c + 1)])) ∧ 0 ≤ d ∧ d < u := by
  rw [callF_succ _ _ _ _ _ d_law_take Has.take]
  have hpl := get_lt hp
  obtain ⟨q, hq, q0, q1⟩ := prime_at ((c + 1) % 5) (Int.emod_nonneg _ (by decide)) (Int.emod_lt_of_pos _ (by decide))
  have hset : (h.set p (.lst [.int a, .int b, .int (c + 1)]))[p]? = some (.lst [.int a, .int b, .int (c + 1)]) := get_set hp
  have hset2 : ∀ g : Heap, (h.set p (.lst [.int a, .int b, .int (c + 1)]) ++ g)[p]? = some (.lst [.int a, .int b, .int (c + 1)]) := fun g => get_old hset
  have hl : (h.set p (.lst [.int a, .int b, .int (c + 1)])).length = h.length := by simp
  have hnew : (h.set p (.lst [.int a, .int b, .int (c + 1)]) ++ [.lst primes])[h.length]? = some (.lst primes) := by rw [← hl]; exact get_new
  have m1 : (c + 1).natAbs < 18446744073709551616 := by omega
  have x0 : 0 ≤ 104729 * (c + 1) * (c + 1) := Int.mul_nonneg (by omega) (by omega)
  have x1 : 104729 * (c + 1) * (c + 1) ≤ 104729 * 1000000 * 1000000 := Int.mul_le_mul (by omega) (by omega) (by omega) (by omega)
  have lg : (b + 104729 * (c + 1) * (c + 1) + 29).natAbs.log2 < 4096 := log_small (by omega) (by omega)
  have w0 : 0 ≤ (b + 104729 * (c + 1) * (c + 1) + 29) ^ 3 % q := Int.emod_nonneg _ (by omega)
  have w1 : (b + 104729 * (c + 1) * (c + 1) + 29) ^ 3 % q < q := Int.emod_lt_of_pos _ q0
  have m2 : ((b + 104729 * (c + 1) * (c + 1) + 29) ^ 3 % q).natAbs < 18446744073709551616 := by omega
  refine ⟨(b + 104729 * (c + 1) * (c + 1) + 29) ^ 3 % q * ((b + 104729 * (c + 1) * (c + 1) + 29) ^ 3 % q % 10007 + 97 * (c + 1)) % 2305843009213693907 / 113 % u, ?_, Int.emod_nonneg _ (by omega), Int.emod_lt_of_pos _ hu⟩
  have hq' : atI [D.int 2147483647, .int 2147483629, .int 2147483587, .int 2147483579, .int 2147483563] ((c + 1) % 5) = some (.int q) := hq
  have hnew' : (h.set p (.lst [.int a, .int b, .int (c + 1)]) ++ [.lst [D.int 2147483647, .int 2147483629, .int 2147483587, .int 2147483579, .int 2147483563]])[h.length]? = some (.lst [D.int 2147483647, .int 2147483629, .int 2147483587, .int 2147483579, .int 2147483563]) := hnew
  have at0 : ∀ (x y z : D), atI [x, y, z] 0 = some x := fun _ _ _ => rfl
  have at1 : ∀ (x y z : D), atI [x, y, z] 1 = some y := fun _ _ _ => rfl
  have at2 : ∀ (x y z : D), atI [x, y, z] 2 = some z := fun _ _ _ => rfl
  have nd : ¬ (a > 0) := ha
  have g1 : gc (h.set p (.lst [.int a, .int b, .int (c + 1)])) (.ok (.int q) (h.set p (.lst [.int a, .int b, .int (c + 1)]) ++ [.lst [D.int 2147483647, .int 2147483629, .int 2147483587, .int 2147483579, .int 2147483563]])) = .ok (.int q) (h.set p (.lst [.int a, .int b, .int (c + 1)])) := gc_app rfl
  have g2 : ∀ d : Int, gc h (.ok (.int d) (h.set p (.lst [.int a, .int b, .int (c + 1)]))) = .ok (.int d) (h.set p (.lst [.int a, .int b, .int (c + 1)])) := fun d => gc_set0 rfl rfl
  have gB : ∀ (b : Bool), gcB h (.ok b h) = .ok b h := fun _ => gcB_self
  have gH : ∀ d : Int, gc (h.set p (.lst [.int a, .int b, .int (c + 1)])) (.ok (.int d) (h.set p (.lst [.int a, .int b, .int (c + 1)]))) = .ok (.int d) (h.set p (.lst [.int a, .int b, .int (c + 1)])) := fun d => gc_int
  have pp : (((h.set p (.lst [.int a, .int b, .int (c + 1)])) ++ [.lst [D.int 2147483647, .int 2147483629, .int 2147483587, .int 2147483579, .int 2147483563]]) : Heap)[p]? = some (.lst [.int a, .int b, .int (c + 1)]) := hset2 _
  generalize hH : h.set p (.lst [.int a, .int b, .int (c + 1)]) = H at *
  have hput : p_list (.ref p) (.int 2) (.int (c + 1)) h = .ok () H := by simp [p_list, hp, List.set, ← hH]
  simp [runDef, d_law_take, b_law_take, s_cons, s_if, s_asg, s_put, s_ret, s_nil, t_b, e_2, e_var, e_c, e_call, a_cons, a_nil, e_lst, newO, o_item, items, hp, at0, at1, at2, liftO_some, o_gt, okB, asB, ha, gB, b_int, o_mod, gc_int, g_name, o_fdiv, hput, Flow.then, o_add, o_mul, o_pow, hset, pp, hl, hnew', hq', g1, g2, m1, m2, lg, q0, hu, BIG, LIM]
theorem take_spec {n p k : Nat} {h : Heap} {l : List D} {u : Int} (hn : 4 ≤ n) (hp : h[p]? = some (.lst l)) (hl : Pot k l) (hk : k < 1000000 := by omega) (hu : 0 < u := by omega) (hu2 : u < 1073741824 := by omega) :
    ∃ d l', callF P n 0 [.ref p, .int u] h = .ok (.int d) (h.set p (.lst l')) ∧ Pot (k + 1) l' ∧ 0 ≤ d ∧ d < u := by
  obtain ⟨m, rfl⟩ : ∃ m, n = m + 4 := ⟨n - 4, by omega⟩
  obtain ⟨a, b, c, rfl, h1, h2, h3, h4, h5⟩ := hl
  by_cases ha : 0 < a
  · exact ⟨_, _, take_big m h p a b c u hp ha hu hu2, ⟨_, _, _, rfl, Int.ediv_nonneg (by omega) (by omega), h2, h3, h4, by omega⟩, Int.emod_nonneg _ (by omega), Int.emod_lt_of_pos _ hu⟩
  · obtain ⟨d, e, d0, d1⟩ := take_small (P := P) m h p a b c u hp ha h2 h3 h4 (by omega) hu hu2
    exact ⟨d, _, e, ⟨_, _, _, rfl, h1, h2, h3, by omega, by omega⟩, d0, d1⟩
theorem at_nat {α : Type} {xs : List α} {i : Int} (h0 : 0 ≤ i) (h1 : i < xs.length) : ∃ x, atI xs i = some x ∧ xs[i.toNat]? = some x := by
  have : i.toNat < xs.length := by omega
  refine ⟨xs[i.toNat], ?_, List.getElem?_eq_getElem this⟩
  simp [atI, ixN, h0, h1, List.getElem?_eq_getElem this]
theorem gc_any {h : Heap} {x : D} {p : Nat} {o : LO} (ho : o.pure = true) : gc h (.ok x (h.set p o)) = .ok x (h.set p o) := by
  have ag : agree h (h.set p o) = true := by simpa using agree_set h [] p o ho
  have tk : (h.set p o).take h.length = h.set p o := List.take_of_length_le (by simp)
  simp only [gc, ag, tk, if_true]
  cases hp : x.pure with
  | true => simp
  | false =>
    simp only [Bool.false_eq_true, if_false]
    cases x with
    | ref r =>
      by_cases hr : h.length ≤ r
      · have : (h.set p o)[r]? = none := List.getElem?_eq_none (by simpa using hr)
        simp [hr, this]
      · simp [hr]
    | _ => rfl
theorem of_spec {n p s k : Nat} {h : Heap} {l ds : List D} (hn : 5 ≤ n) (hp : h[p]? = some (.lst l)) (hs : h[s]? = some (.lst ds)) (hps : s ≠ p) (hl : Pot k l) (hk : k < 1000000 := by omega) (hne : 0 < ds.length) (hlen : ds.length < 1000) :
    ∃ d l', callF P n 1 [.ref p, .ref s] h = .ok d (h.set p (.lst l')) ∧ Pot (k + 1) l' ∧ d ∈ ds := by
  obtain ⟨m, rfl⟩ : ∃ m, n = m + 1 + 4 := ⟨n - 5, by omega⟩
  rw [callF_succ _ _ _ _ _ d_law_of Has.of_]
  obtain ⟨d, l', e, hl', d0, d1⟩ := take_spec (P := P) (n := m + 1 + 3) (u := ds.length) (by omega) hp hl hk
  obtain ⟨x, hx, hx2⟩ := at_nat d0 d1
  have hm : x ∈ ds := List.mem_of_getElem? hx2
  have hs2 : (h.set p (.lst l'))[s]? = some (.lst ds) := by rw [List.getElem?_set_ne (Ne.symm hps)]; exact hs
  have gx : gc h (.ok x (h.set p (.lst l'))) = .ok x (h.set p (.lst l')) := gc_any hl'.pure
  refine ⟨x, l', ?_, hl', hm⟩
  simp [runDef, d_law_of, b_law_of, s_ret, e_2, e_var, e_call, a_cons, a_nil, b_len, lenD, hs, liftO_some, e, o_item, items, hs2, hx, gx]
/-- of a tuple -/
theorem of_tup {n p k : Nat} {h : Heap} {l ds : List D} (hn : 5 ≤ n) (hp : h[p]? = some (.lst l)) (hl : Pot k l) (hk : k < 1000000 := by omega) (hne : 0 < ds.length) (hlen : ds.length < 1000) :
    ∃ d l', callF P n 1 [.ref p, .tup ds] h = .ok d (h.set p (.lst l')) ∧ Pot (k + 1) l' ∧ d ∈ ds := by
  obtain ⟨m, rfl⟩ : ∃ m, n = m + 1 + 4 := ⟨n - 5, by omega⟩
  rw [callF_succ _ _ _ _ _ d_law_of Has.of_]
  obtain ⟨d, l', e, hl', d0, d1⟩ := take_spec (P := P) (n := m + 1 + 3) (u := ds.length) (by omega) hp hl hk
  obtain ⟨x, hx, hx2⟩ := at_nat d0 d1
  have hm : x ∈ ds := List.mem_of_getElem? hx2
  have gx : gc h (.ok x (h.set p (.lst l'))) = .ok x (h.set p (.lst l')) := gc_any hl'.pure
  refine ⟨x, l', ?_, hl', hm⟩
  simp [runDef, d_law_of, b_law_of, s_ret, e_2, e_var, e_call, a_cons, a_nil, b_len, lenD, liftO_some, e, o_item, items, hx, gx]
theorem pow1 {h : Heap} : o_pow (.int 10) (.int 60) h = .ok (.int (10 ^ 60)) h := by
  simp only [o_pow]
  rw [if_pos (by decide +kernel)]
  rfl
theorem pow2 {h : Heap} : o_pow (.int (10 ^ 60)) (.int 5) h = .ok (.int ((10 ^ 60) ^ 5)) h := by
  simp only [o_pow]
  rw [if_pos (by decide +kernel)]
  rfl
theorem pow3 {h : Heap} : o_pow (.int 10) (.int 18) h = .ok (.int (10 ^ 18)) h := by
  simp only [o_pow]
  rw [if_pos (by decide +kernel)]
  rfl
theorem modE {h : Heap} (i : Int) : o_mod (.int i) (.int ((10 ^ 60) ^ 5)) h = .ok (.int (i % (10 ^ 60) ^ 5)) h := by
  simp only [o_mod]
  rw [if_pos (by decide +kernel)]
theorem pot_rest {h : Heap} {is : List D} {i c : Int} (h0 : 0 ≤ i) (h1 : i < 12) : ∃ l, (s_cons (s_asg (e_2 o_mul (e_2 o_mod (e_call b_int (a_cons (e_call b_abs (a_cons (e_var 2) (a_nil))) (a_nil))) (e_2 o_pow (e_2 o_pow (e_c (.int 10)) (e_c (.int 60))) (e_c (.int 5)))) (e_call b_int (a_cons (e_2 o_ge (e_call b_abs (a_cons (e_var 2) (a_nil))) (e_2 o_pow (e_c (.int 10)) (e_c (.int 18)))) (a_nil)))) (g_name 3)) (
      s_cons (s_asg (e_2 o_mod (e_call b_int (a_cons (e_var 2) (a_nil))) (e_c (.int 2305843009213693951))) (g_name 4)) (
      s_ret (e_lst (a_cons (e_var 3) (a_cons (e_2 o_mod (e_call b_int (a_cons (e_2 o_add (e_2 o_add (e_2 o_mul (e_var 4) (e_c (.int 70657))) (e_2 o_mul (e_2 o_mul (e_c (.int 7927)) (e_var 1)) (e_var 1))) (e_c (.int 97))) (a_nil))) (e_c (.int 2305843009213693921))) (a_cons (e_c (.int 0)) (a_nil)))))))) [some (.frz is), some (.int i), some (.int c), none, none] h = .rt (.ref h.length) (h ++ [.lst l]) ∧ Pot 0 l := by
  have q0 : ∀ x : Int, 0 ≤ x % 2305843009213693921 := fun x => Int.emod_nonneg _ (by decide)
  have q1 : ∀ x : Int, x % 2305843009213693921 < 2305843009213693921 := fun x => Int.emod_lt_of_pos _ (by decide)
  have a0 : ∀ x : Int, 0 ≤ x % (10 ^ 60) ^ 5 := fun x => Int.emod_nonneg _ (by decide +kernel)
  have mi : (i.natAbs < 18446744073709551616) := by omega
  have posE : (0 : Int) < (10 ^ 60) ^ 5 := by decide +kernel
  by_cases hb : (10 : Int) ^ 18 ≤ (if c < 0 then -c else c)
  · refine ⟨[.int ((if c < 0 then -c else c) % (10 ^ 60) ^ 5 * 1), .int ((c % 2305843009213693951 * 70657 + 7927 * i * i + 97) % 2305843009213693921), .int 0], ?_, _, _, _, rfl, ?_, q0 _, Int.lt_trans (q1 _) (by decide), Int.le_refl _, by decide⟩
    · simp [s_cons, s_asg, s_ret, e_2, e_call, a_cons, a_nil, e_var, e_c, b_abs, b_int, pow1, pow2, pow3, modE, o_ge, okB, hb, o_mul, BIG, gc_int, g_name, Flow.then, o_mod, o_add, e_lst, newO, LIM, mi, posE, -Int.reducePow]
    · have := a0 (if c < 0 then -c else c); omega
  · refine ⟨[.int ((if c < 0 then -c else c) % (10 ^ 60) ^ 5 * 0), .int ((c % 2305843009213693951 * 70657 + 7927 * i * i + 97) % 2305843009213693921), .int 0], ?_, _, _, _, rfl, by simp, q0 _, Int.lt_trans (q1 _) (by decide), Int.le_refl _, by decide⟩
    · simp [s_cons, s_asg, s_ret, e_2, e_call, a_cons, a_nil, e_var, e_c, b_abs, b_int, pow1, pow2, pow3, modE, o_ge, okB, hb, o_mul, BIG, gc_int, g_name, Flow.then, o_mod, o_add, e_lst, newO, LIM, mi, posE, -Int.reducePow]
theorem pot_spec {n : Nat} {h : Heap} {is : List Int} {i : Int} (hn : 4 ≤ n) (h0 : 0 ≤ i) (h1 : i < 12) : ∃ l, callF P n 2 [.frz (is.map .int), .int i] h = .ok (.ref h.length) (h ++ [.lst l]) ∧ Pot 0 l := by
  obtain ⟨m, rfl⟩ : ∃ m, n = m + 4 := ⟨n - 4, by omega⟩
  rw [callF_succ _ _ _ _ _ d_law_pot Has.pot]
  have first : ∃ c : Int, (e_if (t_b (e_2 o_lt (e_var 1) (e_call b_len (a_cons (e_var 0) (a_nil))))) (e_2 o_item (e_var 0) (e_var 1)) (e_2 o_add (e_2 o_mul (e_c (.int 37)) (e_var 1)) (e_c (.int 11)))) [some (.frz (is.map .int)), some (.int i), none, none, none] h = .ok (.int c) h := by
    by_cases hl : i < is.length
    · obtain ⟨x, hx, hx2⟩ := at_nat (xs := is.map D.int) h0 (by simpa using hl)
      obtain ⟨c, _, rfl⟩ := List.mem_map.mp (List.mem_of_getElem? hx2)
      refine ⟨c, ?_⟩
      simp [e_if, t_b, e_2, e_var, e_call, a_cons, a_nil, b_len, lenD, liftO_some, o_lt, okB, asB, hl, o_item, items, hx]
    · refine ⟨37 * i + 11, ?_⟩
      simp [e_if, t_b, e_2, e_var, e_call, a_cons, a_nil, b_len, lenD, liftO_some, o_lt, okB, asB, hl, o_mul, o_add, e_c, BIG]
  obtain ⟨c, ec⟩ := first
  obtain ⟨l, el, hl⟩ := pot_rest (h := h) (is := is.map .int) (c := c) h0 h1
  have gN : gc h (.ok (.ref h.length) (h ++ [.lst l])) = .ok (.ref h.length) (h ++ [.lst l]) := gc_new get_new (Nat.le_refl _) hl.pure
  refine ⟨l, ?_, hl⟩
  have hb : d_law_pot.body (kap P m) [some (.frz (is.map .int)), some (.int i), none, none, none] h = .rt (.ref h.length) (h ++ [.lst l]) := by
    show b_law_pot (kap P m) _ _ = _
    unfold b_law_pot
    rw [s_cons, s_asg, ec, gc_int]
    exact el
  rw [run_rt rfl (v := .ref h.length) (h' := h ++ [.lst l]) hb]
  exact gN
end Lw
end

section
set_option linter.all false
set_option autoImplicit false
set_option maxRecDepth 100000
namespace Lw
open IR
variable {P : Prog} [HasW P]
/-- _law_ordered -/
theorem ordered_spec {n r : Nat} {h : Heap} {rows : List Txt} (hn : 4 ≤ n) (hr : h[r]? = some (.lst (txts rows))) (hl : rows.length < 100000) :
    ∃ out, callF P n 3 [.ref r] h = .ok (.ref h.length) (h ++ [.lst (txts out)]) ∧ Asc out ∧ (∀ x, x ∈ out ↔ x ∈ rows) ∧ out.length ≤ rows.length := by
  obtain ⟨m, rfl⟩ : ∃ m, n = m + 4 := ⟨n - 4, by omega⟩
  rw [callF_succ _ _ _ _ _ d_law_ordered HasW.ordered]
  generalize hκ : kap P m = κ
  have hrl := get_lt hr
  -- the loop
  have loop := for_inv (it := i_list (e_var 0)) (g := g_name 2) (src := ⟨txts rows, [(r, .lst (txts rows))]⟩) (σ := [some (.ref r), some (.ref h.length), none, none]) (h := h ++ [.lst []]) (h1 := h ++ [.lst []])
    (body := s_if (t_b (e_2 o_notin (e_var 2) (e_var 1))) (s_cons (s_asg (e_c (.int 0)) (g_name 3)) (
      s_cons (s_while (t_and (t_b (e_2 o_lt (e_var 3) (e_call b_len (a_cons (e_var 1) (a_nil))))) (t_b (e_2 o_lt (e_2 o_item (e_var 1) (e_var 3)) (e_var 2)))) (s_asg (e_2 o_add (e_var 3) (e_c (.int 1))) (g_name 3))) (
      s_expr (e_lm3 m_insert (e_var 1) (e_var 3) (e_var 2))))) (s_nil))
    (fun i σ h' => ∃ f x y, Asc f ∧ (∀ z, z ∈ f ↔ z ∈ rows.take i) ∧ f.length ≤ i ∧ h' = h ++ [.lst (txts f)] ∧ σ = [some (.ref r), some (.ref h.length), x, y])
    (by simp [i_list, e_var, get_old hr]) (fun i σ h' ⟨f, x, y, _, _, _, e, _⟩ => by subst e; simp [Src.ok, get_old hr])
    ⟨[], none, none, List.Pairwise.nil, by simp, by simp, rfl, rfl⟩ (fun i x σ h' hx ⟨f, s2, s3, fa, fm, fl, e1, e2⟩ => by
      subst e1 e2
      obtain ⟨w, hw, rfl⟩ : ∃ w, rows[i]? = some w ∧ x = .str w := by
        simp only [txts, List.getElem?_map, Option.map_eq_some_iff] at hx
        obtain ⟨w, h1, h2⟩ := hx
        exact ⟨w, h1, h2.symm⟩
      have hi : i < rows.length := (List.getElem?_eq_some_iff.mp hw).1
      have tk : rows.take (i + 1) = rows.take i ++ [w] := by rw [List.take_add_one, hw]; rfl
      have at_ : (h ++ [LO.lst (txts f)])[h.length]? = some (.lst (txts f)) := get_new
      refine ⟨_, rfl, ?_⟩
      by_cases hm : w ∈ f
      · refine ⟨[some (.ref r), some (.ref h.length), some (.str w), s3], h ++ [.lst (txts f)], ?_, f, some (.str w), s3, fa, ?_, by omega, rfl, rfl⟩
        · simp [s_if, t_b, e_2, e_var, o_notin, isIn_ref at_, hm, liftO_some, okB, asB, gcB_self, s_nil]
        · intro z
          rw [tk, List.mem_append, fm z]
          constructor
          · exact .inl
          · rintro (q | q)
            · exact q
            · simp at q; subst q; exact (fm z).mp hm
      · -- the place
        obtain ⟨σ', h', ⟨k, kl, e1, e2, lo, hi'⟩, wr⟩ := while_inv (t := t_and (t_b (e_2 o_lt (e_var 3) (e_call b_len (a_cons (e_var 1) (a_nil))))) (t_b (e_2 o_lt (e_2 o_item (e_var 1) (e_var 3)) (e_var 2)))) (body := s_asg (e_2 o_add (e_var 3) (e_c (.int 1))) (g_name 3))
          (σ := [some (.ref r), some (.ref h.length), some (.str w), some (.int 0)]) (h := h ++ [.lst (txts f)])
          (fun σ h' => ∃ k : Nat, k ≤ f.length ∧ h' = h ++ [.lst (txts f)] ∧ σ = [some (.ref r), some (.ref h.length), some (.str w), some (.int k)] ∧ ∀ y ∈ f.take k, y < w)
          (fun σ _ => f.length - (match σ[3]? with | some (some (D.int k)) => k.toNat | _ => 0))
          (fun σ h' => ∃ k : Nat, k ≤ f.length ∧ h' = h ++ [.lst (txts f)] ∧ σ = [some (.ref r), some (.ref h.length), some (.str w), some (.int k)] ∧ (∀ y ∈ f.take k, y < w) ∧ ∀ y ∈ f.drop k, w < y)
          ⟨0, Nat.zero_le _, rfl, rfl, by simp⟩ (by simp only [WF]; omega) (fun σ h' ⟨k, kl, e1, e2, lo⟩ => by
            subst e1 e2
            by_cases hk : k < f.length
            · have itm : atI (txts f) (k : Int) = some (.str f[k]) := by
                simp [atI, ixN, txts, hk]
              by_cases hlt : f[k] < w
              · refine ⟨true, h ++ [.lst (txts f)], ?_, by simp, fun _ => ⟨[some (.ref r), some (.ref h.length), some (.str w), some (.int (k + 1 : Nat))], h ++ [.lst (txts f)], ?_, ⟨k + 1, hk, rfl, rfl, ?_⟩, ?_⟩⟩
                · simp [t_and, t_b, e_2, e_var, e_call, a_cons, a_nil, b_len, lenD, liftO_some, o_lt, okB, asB, hk, o_item, items, itm, ltT, hlt]
                  exact gcB_self
                · simp [s_asg, e_2, e_var, e_c, o_add, gc_int, g_name]
                · intro y hy
                  rw [List.take_add_one, List.getElem?_eq_getElem hk] at hy
                  rcases List.mem_append.mp hy with q | q
                  · exact lo y q
                  · simp at q; subst q; exact hlt
                · show f.length - (k + 1) < f.length - k
                  omega
              · refine ⟨false, h ++ [.lst (txts f)], ?_, fun _ => ⟨k, kl, rfl, rfl, lo, ?_⟩, by simp⟩
                · simp [t_and, t_b, e_2, e_var, e_call, a_cons, a_nil, b_len, lenD, liftO_some, o_lt, okB, asB, hk, o_item, items, itm, ltT, hlt]
                  exact gcB_self
                · have hne : f[k] ≠ w := fun q => hm (q ▸ List.getElem_mem hk)
                  have hgt := txt_total hlt hne
                  have dr := List.drop_eq_getElem_cons hk
                  intro y hy
                  rw [dr] at hy
                  have fd := fa.sublist (List.drop_sublist k f)
                  rw [dr, List.pairwise_cons] at fd
                  rcases List.mem_cons.mp hy with q | q
                  · subst q; exact hgt
                  · exact txt_trans hgt (fd.1 y q)
            · have ke : k = f.length := by omega
              refine ⟨false, h ++ [.lst (txts f)], ?_, fun _ => ⟨k, kl, rfl, rfl, lo, ?_⟩, by simp⟩
              · simp [t_and, t_b, e_2, e_var, e_call, a_cons, a_nil, b_len, lenD, liftO_some, o_lt, okB, asB, hk]
                exact gcB_self
              · rw [ke]; simp)
        subst e1 e2
        have ei : (h ++ [LO.lst (txts f)]).set h.length (.lst (insAt (txts f) k (.str w))) = h ++ [.lst (txts (insAt f k w))] := by rw [set_new, ins_strs]
        refine ⟨[some (.ref r), some (.ref h.length), some (.str w), some (.int k)], h ++ [.lst (txts (insAt f k w))], ?_, insAt f k w, _, _, asc_ins fa lo hi', ?_, ?_, rfl, rfl⟩
        · have hlm : f.length < 16777216 := by omega
          have gI : gc (h ++ [.lst (txts f)]) (.ok .non (h ++ [.lst (txts (insAt f k w))])) = .ok .non (h ++ [.lst (txts (insAt f k w))]) := by
            rw [← ei]; exact gc_set0 rfl (by rw [ins_strs]; exact pures_strs _)
          simp [s_if, t_b, e_2, e_var, o_notin, isIn_ref at_, hm, liftO_some, okB, asB, gcB_self, s_cons, s_asg, e_c, gc_int, g_name, Flow.then, wr, s_expr, e_lm3, isLst, m_insert, hlm, kl, LIM, ei, gI]
        · intro z
          rw [mem_ins, tk, List.mem_append, fm z]
          constructor
          · rintro (q | q)
            · exact .inr (by simp [q])
            · exact .inl q
          · rintro (q | q)
            · exact .inr q
            · simp at q; exact .inl q
        · simp [insAt]; omega)
  obtain ⟨σ', h', ⟨f, x, y, fa, fm, fl, e1, e2⟩, lr⟩ := loop
  subst e1 e2
  refine ⟨f, ?_, fa, fun z => by rw [fm z]; simp, by simpa using fl⟩
  have gN : gc h (.ok (.ref h.length) (h ++ [.lst (txts f)])) = .ok (.ref h.length) (h ++ [.lst (txts f)]) := gc_new get_new (Nat.le_refl _) (pures_strs f)
  have g0 : gc h (.ok (.ref h.length) (h ++ [.lst []])) = .ok (.ref h.length) (h ++ [.lst []]) := gc_new get_new (Nat.le_refl _) rfl
  rw [run_rt rfl (v := .ref h.length) (h' := h ++ [.lst (txts f)]) ?_]
  · exact gN
  · show b_law_ordered κ _ _ = _
    unfold b_law_ordered
    have s1 : s_asg (e_lst a_nil) (g_name 1) ([D.ref r].map some ++ List.replicate (d_law_ordered.n - d_law_ordered.np) none) h = .nx [some (.ref r), some (.ref h.length), none, none] (h ++ [.lst []]) := by
      simp [s_asg, e_lst, a_nil, newO, LIM, g0, g_name, d_law_ordered]
    rw [s_cons, s1]
    simp only [Flow.then, s_cons, lr]
    simp [s_ret, e_var]
end Lw
end

section
set_option linter.all false
set_option autoImplicit false
set_option maxRecDepth 100000
namespace Lw
open IR
variable {P : Prog} [Has P] [HasW P]
def abc : Txt := [97, 98, 99, 100, 101, 102, 103, 104, 105, 106, 107, 108, 109, 110, 111, 112, 113, 114, 115, 116, 117, 118, 119, 120, 121, 122]
def taken : List Txt := [[110, 101, 120, 116], [109, 111, 114, 101], [110, 111, 116], [115, 97, 109, 101], [108, 101, 115, 115], [97, 110, 100], [111, 114]]
def Letters (w : Txt) : Prop := ∀ c ∈ w, c ∈ abc
/-- a name of a kind -/
structure Word (w : Txt) : Prop where
  len : 1 ≤ w.length ∧ w.length ≤ 8
  let_ : Letters w
  ok : w ∉ taken
theorem abc_at {i : Int} (h0 : 0 ≤ i) (h1 : i < 26) : ∃ c, atI abc i = some c ∧ c ∈ abc := by
  obtain ⟨x, e1, e2⟩ := at_nat (xs := abc) h0 h1
  exact ⟨x, e1, List.mem_of_getElem? e2⟩
theorem word_end {w : Txt} (h1 : 1 ≤ w.length ∧ w.length ≤ 8) (hl : Letters w) : Word (w ++ if w ∈ taken then [120] else []) := by
  by_cases h : w ∈ taken
  · rw [if_pos h]
    have : w = [110, 101, 120, 116] ∨ w = [109, 111, 114, 101] ∨ w = [110, 111, 116] ∨ w = [115, 97, 109, 101] ∨ w = [108, 101, 115, 115] ∨ w = [97, 110, 100] ∨ w = [111, 114] := by simpa [taken] using h
    rcases this with rfl | rfl | rfl | rfl | rfl | rfl | rfl <;> exact ⟨by decide, by unfold Letters; decide, by decide⟩
  · rw [if_neg h, List.append_nil]
    exact ⟨h1, hl, h⟩
theorem set_set {h : Heap} {p : Nat} {o o' : LO} : (h.set p o).set p o' = h.set p o' := by simp
theorem word_spec {n p k : Nat} {h : Heap} {l : List D} (hn : 5 ≤ n) (hp : h[p]? = some (.lst l)) (hl : Pot k l) (hk : k < 900000) :
    ∃ w l', callF P n 4 [.ref p] h = .ok (.str w) (h.set p (.lst l')) ∧ Pot (k + 9) l' ∧ Word w := by
  obtain ⟨m, rfl⟩ : ∃ m, n = m + 1 + 4 := ⟨n - 5, by omega⟩
  rw [callF_succ _ _ _ _ _ d_law_word HasW.word]
  obtain ⟨d, l1, e1, hl1, d0, d1⟩ := take_spec (P := P) (n := m + 1 + 3) (u := 8) (by omega) hp hl
  have p1 : (h.set p (.lst l1))[p]? = some (.lst l1) := get_set hp
  have len1 : (rng 0 (1 + d).toNat 1).length = (1 + d).toNat := by simp [rng]
  obtain ⟨σ', h', ⟨w, l2, x, hw, hlw, hl2, e2, e3⟩, lr⟩ := for_inv (it := i_rng1 (e_2 o_add (e_c (.int 1)) (e_call ((kap P (m + 1)).fn 0) (a_cons (e_var 0) (a_cons (e_c (.int 8)) (a_nil)))))) (g := g_name 2)
    (body := s_asg (e_2 o_add (e_var 1) (e_2 o_item (e_c (.str abc)) (e_call ((kap P (m + 1)).fn 0) (a_cons (e_var 0) (a_cons (e_c (.int 26)) (a_nil)))))) (g_name 1))
    (src := ⟨rng 0 (1 + d).toNat 1, []⟩) (σ := [some (.ref p), some (.str []), none]) (h := h) (h1 := h.set p (.lst l1))
    (fun i σ h' => ∃ w l2 x, w.length = i ∧ Letters w ∧ Pot (k + 1 + i) l2 ∧ h' = h.set p (.lst l2) ∧ σ = [some (.ref p), some (.str w), x])
    (by
      have : -B62 ≤ 1 + d ∧ 1 + d < B62 := by simp only [B62]; omega
      simp [i_rng1, e_2, e_c, e_call, a_cons, a_nil, e_var, e1, o_add, this]) (fun _ _ _ _ => rfl) ⟨[], l1, none, rfl, (by intro c hc; cases hc), hl1, rfl, rfl⟩
    (fun i y σ h' hy ⟨w, l2, x, hw, hlw, hl2, e2, e3⟩ => by
      subst e2 e3
      have hi : i < (1 + d).toNat := by
        have := (List.getElem?_eq_some_iff.mp hy).1
        rw [len1] at this; exact this
      have p2 : (h.set p (.lst l2))[p]? = some (.lst l2) := get_set hp
      obtain ⟨d2, l3, e4, hl3, d2a, d2b⟩ := take_spec (P := P) (n := m + 1 + 3) (u := 26) (by omega) p2 hl2
      rw [set_set] at e4
      obtain ⟨c, c1, c2⟩ := abc_at d2a d2b
      have g3 : gc (h.set p (.lst l2)) (.ok (.str (w ++ [c])) (h.set p (.lst l3))) = .ok (.str (w ++ [c])) (h.set p (.lst l3)) := by
        have := gc_set0 (h := h.set p (.lst l2)) (v := .str (w ++ [c])) (p := p) (o := .lst l3) rfl hl3.pure
        rw [set_set] at this; exact this
      refine ⟨_, rfl, [some (.ref p), some (.str (w ++ [c])), some y], h.set p (.lst l3), ?_, w ++ [c], l3, some y, by simp [hw], ?_, hl3, rfl, rfl⟩
      · have lc : abc.length ≤ 16777216 := by decide
        have lw : w.length + 1 ≤ 16777216 := by omega
        simp [s_asg, e_2, e_var, e_c, e_call, a_cons, a_nil, e4, o_item, lc, LIM, c1, liftO_some, o_add, lw, g3, g_name]
      · intro z hz
        rcases List.mem_append.mp hz with q | q
        · exact hlw z q
        · simp at q; subst q; exact c2)
  subst e2 e3
  rw [len1] at hw hl2
  have hw2 : 1 ≤ w.length ∧ w.length ≤ 8 := by omega
  refine ⟨w ++ if w ∈ taken then [120] else [], l2, ?_, hl2.mono (by omega), word_end hw2 hlw⟩
  have g0 : ∀ v : Txt, gc h (.ok (.str v) (h.set p (.lst l2))) = .ok (.str v) (h.set p (.lst l2)) := fun v => gc_set0 rfl hl2.pure
  rw [run_rt rfl (v := .str (w ++ if w ∈ taken then [120] else [])) (h' := h.set p (.lst l2)) ?_]
  · exact g0 _
  · show b_law_word (kap P (m + 1)) _ _ = _
    unfold b_law_word
    have s1 : s_asg (e_c (.str [])) (g_name 1) ([D.ref p].map some ++ List.replicate (d_law_word.n - d_law_word.np) none) h = .nx [some (.ref p), some (.str []), none] h := by
      simp [s_asg, e_c, gc_str, g_name, d_law_word]
    rw [s_cons, s1]
    simp only [Flow.then, s_cons]
    have lr' := lr
    unfold abc at lr'
    rw [lr']
    have inT : isIn (h.set p (.lst l2)) (.str w) (.tup [.str [110, 101, 120, 116], .str [109, 111, 114, 101], .str [110, 111, 116], .str [115, 97, 109, 101], .str [108, 101, 115, 115], .str [97, 110, 100], .str [111, 114]]) = some (decide (w ∈ taken)) := isIn_tup (l := taken)
    by_cases hT : w ∈ taken
    · have lw : w.length + 1 ≤ 16777216 := by omega
      simp [s_ret, e_2, e_var, e_c, e_call, a_cons, a_nil, e_tup, LIM, o_in, inT, hT, liftO_some, okB, b_int, o_mul, o_add, lw]
    · have lw : w.length ≤ 16777216 := by omega
      simp [s_ret, e_2, e_var, e_c, e_call, a_cons, a_nil, e_tup, LIM, o_in, inT, hT, liftO_some, okB, b_int, o_mul, o_add, lw]
end Lw
end

section
set_option linter.all false
set_option autoImplicit false
set_option maxRecDepth 100000
set_option maxHeartbeats 1000000
/-! values of any kind that can be written out -/
namespace Lw
open IR
def rdS (f : Nat → Option LO) : Nat → D → Option PX
  | 0, _ => none
  | n + 1, d => match d with
    | .non => some .none
    | .bl b => some (.bool b)
    | .int i => some (.int i)
    | .str s => some (.str s)
    | .tup ds => (mapO (rdS f n) ds).map .tuple
    | .frz ds => (mapO (rdS f n) ds).map .list
    | .ref k => match f k with
      | some (.lst ds) => (mapO (rdS f n) ds).map .list
      | some (.dic kvs) => (mapO (rdS f n) (kvs.map (·.2))).map fun ps => .dict ((kvs.map (·.1)).zip ps)
      | _ => none
theorem mapO_mono {α β : Type} {f g : α → Option β} (h : ∀ a b, f a = some b → g a = some b) : ∀ {xs : List α} {ys : List β}, mapO f xs = some ys → mapO g xs = some ys
  | [], ys, e => e
  | x :: xs, ys, e => by
    simp only [mapO] at e ⊢
    split at e
    · rename_i b bs e1 e2
      rw [h _ _ e1, mapO_mono h e2]
      exact e
    · cases e
theorem rdS_mono {f g : Nat → Option LO} (h : ∀ k o, f k = some o → g k = some o) : ∀ {n : Nat} {d : D} {q : PX}, rdS f n d = some q → ∀ m, n ≤ m → rdS g m d = some q
  | 0, d, q, e, _, _ => by cases e
  | n + 1, d, q, e, 0, hm => by omega
  | n + 1, d, q, e, m + 1, hm => by
    have ih : ∀ (a : D) (b : PX), rdS f n a = some b → rdS g m a = some b := fun a b e => rdS_mono h e m (by omega)
    cases d with
    | tup ds =>
      simp only [rdS, Option.map_eq_some_iff] at e ⊢
      obtain ⟨a, e1, e2⟩ := e
      exact ⟨a, mapO_mono ih e1, e2⟩
    | frz ds =>
      simp only [rdS, Option.map_eq_some_iff] at e ⊢
      obtain ⟨a, e1, e2⟩ := e
      exact ⟨a, mapO_mono ih e1, e2⟩
    | ref k =>
      simp only [rdS] at e ⊢
      split at e
      · rename_i ds e0
        rw [h _ _ e0]
        simp only [Option.map_eq_some_iff] at e ⊢
        obtain ⟨a, e1, e2⟩ := e
        exact ⟨a, mapO_mono ih e1, e2⟩
      · rename_i ds e0
        rw [h _ _ e0]
        simp only [Option.map_eq_some_iff] at e ⊢
        obtain ⟨a, e1, e2⟩ := e
        exact ⟨a, mapO_mono ih e1, e2⟩
      · cases e
    | _ => exact e
theorem rdX_S (h : Heap) : ∀ (n : Nat) (d : D), rdX h n d = rdS (fun k => h[k]?) n d
  | 0, d => rfl
  | n + 1, d => by
    have ih : rdX h n = rdS (fun k => h[k]?) n := funext (rdX_S h n)
    cases d with
    | ref k =>
      simp only [rdX, rdS, ih]
      all_goals
        cases h[k]? with
        | none => rfl
        | some o => cases o <;> rfl
    | _ => simp only [rdX, rdS, ih]
mutual
/-- ints less than so much, texts of plain signs -/
def fine (B : Nat) : PX → Bool
  | .int i => decide (i.natAbs < B)
  | .str s => s.all fun c => decide (c < 128)
  | .list xs => fines B xs
  | .tuple xs => fines B xs
  | .dict kvs => finek B kvs
  | _ => true
def fines (B : Nat) : List PX → Bool
  | [] => true
  | d :: ds => fine B d && fines B ds
def finek (B : Nat) : List (KY × PX) → Bool
  | [] => true
  | (k, v) :: r => (match k with | .i n => decide (n.natAbs < B) | .s t => t.all fun c => decide (c < 128)) && fine B v && finek B r
end
mutual
theorem fine_upto {B C : Nat} (h : B ≤ C) : ∀ p : PX, fine B p = true → p.upto C = true
  | .none, _ => by simp [PX.upto]
  | .bool _, _ => by simp [PX.upto]
  | .int i, e => by simp only [fine, PX.upto, decide_eq_true_eq] at e ⊢; omega
  | .str _, _ => by simp [PX.upto]
  | .list xs, e => by simp only [PX.upto]; exact fines_upto h xs (by simpa only [fine] using e)
  | .tuple xs, e => by simp only [PX.upto]; exact fines_upto h xs (by simpa only [fine] using e)
  | .dict xs, e => by simp only [PX.upto]; exact finek_upto h xs (by simpa only [fine] using e)
theorem fines_upto {B C : Nat} (h : B ≤ C) : ∀ ps : List PX, fines B ps = true → PX.uptos C ps = true
  | [], _ => by simp [PX.uptos]
  | p :: ps, e => by
    simp only [fines, Bool.and_eq_true] at e
    simp only [PX.uptos, fine_upto h p e.1, fines_upto h ps e.2, Bool.and_self]
theorem finek_upto {B C : Nat} (h : B ≤ C) : ∀ ps : List (KY × PX), finek B ps = true → PX.uptok C ps = true
  | [], _ => by simp [PX.uptok]
  | (.i n, p) :: ps, e => by
    simp only [finek, Bool.and_eq_true, decide_eq_true_eq] at e
    simp only [PX.uptok, fine_upto h p e.1.2, finek_upto h ps e.2, Bool.and_eq_true, decide_eq_true_eq, and_true]
    omega
  | (.s n, p) :: ps, e => by
    simp only [finek, Bool.and_eq_true] at e
    simp only [PX.uptok, fine_upto h p e.1.2, finek_upto h ps e.2, Bool.and_self]
end
mutual
theorem fine_mono {B C : Nat} (h : B ≤ C) : ∀ p : PX, fine B p = true → fine C p = true
  | .none, _ => by simp [fine]
  | .bool _, _ => by simp [fine]
  | .int i, e => by simp only [fine, decide_eq_true_eq] at e ⊢; omega
  | .str _, e => by simpa only [fine] using e
  | .list xs, e => by simp only [fine]; exact fines_mono h xs (by simpa only [fine] using e)
  | .tuple xs, e => by simp only [fine]; exact fines_mono h xs (by simpa only [fine] using e)
  | .dict xs, e => by simp only [fine]; exact finek_mono h xs (by simpa only [fine] using e)
theorem fines_mono {B C : Nat} (h : B ≤ C) : ∀ ps : List PX, fines B ps = true → fines C ps = true
  | [], _ => by simp [fines]
  | p :: ps, e => by
    simp only [fines, Bool.and_eq_true] at e
    simp only [fines, fine_mono h p e.1, fines_mono h ps e.2, Bool.and_self]
theorem finek_mono {B C : Nat} (h : B ≤ C) : ∀ ps : List (KY × PX), finek B ps = true → finek C ps = true
  | [], _ => by simp [finek]
  | (.i n, p) :: ps, e => by
    simp only [finek, Bool.and_eq_true, decide_eq_true_eq] at e
    simp only [finek, fine_mono h p e.1.2, finek_mono h ps e.2, Bool.and_eq_true, decide_eq_true_eq, and_true]
    omega
  | (.s n, p) :: ps, e => by
    simp only [finek, Bool.and_eq_true] at e
    simp only [finek, fine_mono h p e.1.2, finek_mono h ps e.2, e.1.1, Bool.and_self]
end
/-- what is seen but for some addresses -/
def vw (S : List Nat) (h : Heap) : Nat → Option LO := fun k => if k ∈ S then none else h[k]?
/-- nothing that is seen changes -/
def Ext (S : List Nat) (h h' : Heap) : Prop := ∀ k o, k ∉ S → h[k]? = some o → h'[k]? = some o
section
variable {S : List Nat} {h h' h2 g : Heap} {B n W : Nat} {d : D} {ds : List D}
theorem Ext.refl : Ext S h h := fun _ _ _ e => e
theorem Ext.trans (a : Ext S h h') (b : Ext S h' h2) : Ext S h h2 := fun k o hk e => b k o hk (a k o hk e)
theorem Ext.app : Ext S h (h ++ g) := fun k o _ e => get_old e
theorem Ext.set {p : Nat} {o : LO} (hp : p ∈ S) : Ext S h (h.set p o) := fun k u hk e => by
  rw [List.getElem?_set_ne (by rintro rfl; exact hk hp)]; exact e
theorem Ext.more {S' : List Nat} (a : Ext S h h') (s : ∀ k, k ∈ S → k ∈ S') : Ext S' h h' := fun k o hk e => a k o (fun q => hk (s k q)) e
theorem Ext.vw (a : Ext S h h') : ∀ k o, vw S h k = some o → vw S h' k = some o := by
  intro k o e
  unfold Lw.vw at e ⊢
  split at e
  · cases e
  · rename_i hk
    rw [if_neg hk]
    exact a k o hk e
def Good (S : List Nat) (h : Heap) (B n W : Nat) (d : D) : Prop := ∃ q, rdS (vw S h) n d = some q ∧ fine B q = true ∧ q.wt ≤ W
def Goods (S : List Nat) (h : Heap) (B n W : Nat) (ds : List D) : Prop := ∃ qs, mapO (rdS (vw S h) n) ds = some qs ∧ fines B qs = true ∧ PX.wts qs ≤ W
theorem Good.ext (a : Good S h B n W d) (e : Ext S h h') : Good S h' B n W d := by
  obtain ⟨q, e1, e2, e3⟩ := a
  exact ⟨q, rdS_mono e.vw e1 n (Nat.le_refl _), e2, e3⟩
theorem Goods.ext (a : Goods S h B n W ds) (e : Ext S h h') : Goods S h' B n W ds := by
  obtain ⟨q, e1, e2, e3⟩ := a
  exact ⟨q, mapO_mono (fun _ _ e0 => rdS_mono e.vw e0 n (Nat.le_refl _)) e1, e2, e3⟩
theorem Good.mono {B' n' W' : Nat} (a : Good S h B n W d) (hB : B ≤ B') (hn : n ≤ n') (hW : W ≤ W') : Good S h B' n' W' d := by
  obtain ⟨q, e1, e2, e3⟩ := a
  exact ⟨q, rdS_mono (fun _ _ e => e) e1 n' hn, fine_mono hB q e2, Nat.le_trans e3 hW⟩
theorem Goods.mono {B' n' W' : Nat} (a : Goods S h B n W ds) (hB : B ≤ B') (hn : n ≤ n') (hW : W ≤ W') : Goods S h B' n' W' ds := by
  obtain ⟨q, e1, e2, e3⟩ := a
  exact ⟨q, mapO_mono (fun _ _ e0 => rdS_mono (fun _ _ e => e) e0 n' hn) e1, fines_mono hB q e2, Nat.le_trans e3 hW⟩
theorem Good.less {S' : List Nat} (a : Good S h B n W d) (s : ∀ k, k ∈ S' → k ∈ S) : Good S' h B n W d := by
  obtain ⟨q, e1, e2, e3⟩ := a
  refine ⟨q, rdS_mono (fun k o e => ?_) e1 n (Nat.le_refl _), e2, e3⟩
  unfold vw at e ⊢
  split at e
  · cases e
  · rename_i hk
    rw [if_neg fun q => hk (s k q)]; exact e
theorem Goods.less' {S' : List Nat} (a : Goods S h B n W ds) (s : ∀ k, k ∈ S' → k ∈ S) : Goods S' h B n W ds := by
  obtain ⟨q, e1, e2, e3⟩ := a
  refine ⟨q, mapO_mono (fun _ _ e0 => rdS_mono (fun k o e => ?_) e0 n (Nat.le_refl _)) e1, e2, e3⟩
  unfold vw at e ⊢
  split at e
  · cases e
  · rename_i hk
    rw [if_neg fun q => hk (s k q)]; exact e
/-- seen by all -/
theorem Good.rd (a : Good S h B n W d) : ∃ q, (∀ m, n ≤ m → rdX h m d = some q) ∧ fine B q = true ∧ q.wt ≤ W := by
  obtain ⟨q, e1, e2, e3⟩ := a
  refine ⟨q, fun m hm => ?_, e2, e3⟩
  rw [rdX_S]
  refine rdS_mono (fun k o e => ?_) e1 m hm
  unfold vw at e
  split at e
  · cases e
  · exact e
theorem Good.non : Good S h B (n + 1) W .non := ⟨_, rfl, by simp [fine], by simp [PX.wt]⟩
theorem Good.bl {b : Bool} : Good S h B (n + 1) W (.bl b) := ⟨_, rfl, by simp [fine], by simp [PX.wt]⟩
theorem Good.int {i : Int} (hB : i.natAbs < B) (hW : PX.wt (.int i) ≤ W) : Good S h B (n + 1) W (.int i) := ⟨_, rfl, by simpa [fine] using hB, hW⟩
theorem Good.str {s : Txt} (hs : (s.all fun c => decide (c < 128)) = true) (hW : s.length ≤ W) : Good S h B (n + 1) W (.str s) := ⟨_, rfl, by simpa only [fine] using hs, by simpa [PX.wt] using hW⟩
theorem Good.tup (a : Goods S h B n W ds) : Good S h B (n + 1) W (.tup ds) := by
  obtain ⟨q, e1, e2, e3⟩ := a
  exact ⟨.tuple q, by simp only [rdS, e1, Option.map_some], by simpa only [fine] using e2, by simpa only [PX.wt] using e3⟩
theorem Good.lst {k : Nat} (hk : k ∉ S) (e : h[k]? = some (.lst ds)) (a : Goods S h B n W ds) : Good S h B (n + 1) W (.ref k) := by
  obtain ⟨q, e1, e2, e3⟩ := a
  have ev : vw S h k = some (.lst ds) := by unfold vw; rw [if_neg hk]; exact e
  exact ⟨.list q, by simp only [rdS, ev, e1, Option.map_some], by simpa only [fine] using e2, by simpa only [PX.wt] using e3⟩
theorem Goods.nil : Goods S h B n 0 [] := ⟨[], rfl, by simp [fines], by simp [PX.wts]⟩
theorem Goods.cons {W2 : Nat} (a : Good S h B n W d) (b : Goods S h B n W2 ds) : Goods S h B n (W + 1 + W2) (d :: ds) := by
  obtain ⟨q, e1, e2, e3⟩ := a
  obtain ⟨qs, f1, f2, f3⟩ := b
  exact ⟨q :: qs, by simp only [mapO, e1, f1], by simp only [fines, e2, f2, Bool.and_self], by simp only [PX.wts]; omega⟩
theorem Goods.uncons (a : Goods S h B n W (d :: ds)) : ∃ W1 W2, Good S h B n W1 d ∧ Goods S h B n W2 ds ∧ W1 + 1 + W2 = W := by
  obtain ⟨qs, f1, f2, f3⟩ := a
  simp only [mapO] at f1
  split at f1
  · rename_i b bs e1 e2
    cases f1
    simp only [fines, Bool.and_eq_true] at f2
    simp only [PX.wts] at f3
    exact ⟨b.wt, W - 1 - b.wt, ⟨b, e1, f2.1, Nat.le_refl _⟩, ⟨bs, e2, f2.2, by omega⟩, by omega⟩
  · cases f1
theorem Goods.of_nil (W : Nat) : Goods S h B n W [] := Goods.nil.mono (Nat.le_refl _) (Nat.le_refl _) (Nat.zero_le _)
theorem Goods.append {W2 : Nat} : ∀ {ds es : List D} {W : Nat}, Goods S h B n W ds → Goods S h B n W2 es → Goods S h B n (W + W2) (ds ++ es)
  | [], es, W, a, b => b.mono (Nat.le_refl _) (Nat.le_refl _) (by omega)
  | d :: ds, es, W, a, b => by
    obtain ⟨w1, w2, x, y, e⟩ := a.uncons
    exact (Goods.cons x (Goods.append y b)).mono (Nat.le_refl _) (Nat.le_refl _) (by omega)
theorem Goods.sub : ∀ {ds es : List D} {W : Nat}, List.Sublist es ds → Goods S h B n W ds → Goods S h B n W es
  | _, _, W, .slnil, a => a
  | _, _, W, .cons x s, a => by
    obtain ⟨w1, w2, x, y, e⟩ := a.uncons
    exact (Goods.sub s y).mono (Nat.le_refl _) (Nat.le_refl _) (by omega)
  | _, _, W, .cons₂ x s, a => by
    obtain ⟨w1, w2, x, y, e⟩ := a.uncons
    exact (Goods.cons x (Goods.sub s y)).mono (Nat.le_refl _) (Nat.le_refl _) (by omega)
theorem Goods.mem {x : D} : ∀ {ds : List D} {W : Nat}, Goods S h B n W ds → x ∈ ds → Good S h B n W x
  | [], W, _, hx => by cases hx
  | d :: ds, W, a, hx => by
    obtain ⟨w1, w2, y, z, e⟩ := a.uncons
    rcases List.mem_cons.mp hx with q | q
    · subst q; exact y.mono (Nat.le_refl _) (Nat.le_refl _) (by omega)
    · exact (Goods.mem z q).mono (Nat.le_refl _) (Nat.le_refl _) (by omega)
theorem Goods.len : ∀ {ds : List D} {W : Nat}, Goods S h B n W ds → ds.length ≤ W
  | [], W, _ => Nat.zero_le _
  | d :: ds, W, a => by
    obtain ⟨w1, w2, y, z, e⟩ := a.uncons
    have := Goods.len z
    simp only [List.length_cons]; omega
theorem Goods.rev : ∀ {ds : List D} {W : Nat}, Goods S h B n W ds → Goods S h B n W ds.reverse
  | [], W, a => a
  | d :: ds, W, a => by
    obtain ⟨w1, w2, y, z, e⟩ := a.uncons
    rw [List.reverse_cons]
    exact (Goods.append (Goods.rev z) (Goods.cons y Goods.nil)).mono (Nat.le_refl _) (Nat.le_refl _) (by omega)
theorem Good.untup (a : Good S h B (n + 1) W (.tup ds)) : Goods S h B n W ds := by
  obtain ⟨q, e1, e2, e3⟩ := a
  simp only [rdS, Option.map_eq_some_iff] at e1
  obtain ⟨qs, f1, rfl⟩ := e1
  exact ⟨qs, f1, by simpa only [fine] using e2, by simpa only [PX.wt] using e3⟩
theorem Good.unstr {s : Txt} (a : Good S h B n W (.str s)) : (s.all fun c => decide (c < 128)) = true ∧ s.length ≤ W := by
  obtain ⟨q, e1, e2, e3⟩ := a
  cases n with
  | zero => cases e1
  | succ n =>
    cases e1
    exact ⟨by simpa only [fine] using e2, by simpa [PX.wt] using e3⟩
theorem Good.unint {i : Int} (a : Good S h B n W (.int i)) : i.natAbs < B ∧ PX.wt (.int i) ≤ W := by
  obtain ⟨q, e1, e2, e3⟩ := a
  cases n with
  | zero => cases e1
  | succ n =>
    cases e1
    exact ⟨by simpa [fine] using e2, e3⟩
/-- a reference is one of ours, to a list or a dict -/
theorem Good.unref {k : Nat} (a : Good S h B n W (.ref k)) : k ∉ S ∧ ((∃ ds, h[k]? = some (.lst ds)) ∨ ∃ kvs, h[k]? = some (.dic kvs)) := by
  obtain ⟨q, e1, e2, e3⟩ := a
  cases n with
  | zero => cases e1
  | succ n =>
    simp only [rdS] at e1
    unfold vw at e1
    by_cases hk : k ∈ S
    · rw [if_pos hk] at e1; cases e1
    · rw [if_neg hk] at e1
      refine ⟨hk, ?_⟩
      split at e1
      · rename_i ds e; exact .inl ⟨ds, e⟩
      · rename_i ds e; exact .inr ⟨ds, e⟩
      · cases e1
end
end Lw
end

section
set_option linter.all false
set_option autoImplicit false
set_option maxRecDepth 100000
set_option maxHeartbeats 1000000
/-! any odd value -/
namespace Lw
open IR
/-! what is pure reads alike everywhere -/
theorem mapO_pure {f g : Nat → Option LO} {n : Nat} (ih : ∀ d : D, d.pure = true → rdS f n d = rdS g n d) : ∀ ds : List D, D.pures ds = true → mapO (rdS f n) ds = mapO (rdS g n) ds
  | [], _ => rfl
  | d :: ds, h => by
    simp only [D.pures, Bool.and_eq_true] at h
    simp only [mapO, ih d h.1, mapO_pure ih ds h.2]
theorem rdS_pure {f g : Nat → Option LO} : ∀ (n : Nat) (d : D), d.pure = true → rdS f n d = rdS g n d
  | 0, d, _ => rfl
  | n + 1, d, h => by
    cases d with
    | tup ds =>
      have e := mapO_pure (f := f) (g := g) (n := n) (fun d hd => rdS_pure n d hd) ds (by simpa only [D.pure] using h)
      simp only [rdS, e]
    | frz ds =>
      have e := mapO_pure (f := f) (g := g) (n := n) (fun d hd => rdS_pure n d hd) ds (by simpa only [D.pure] using h)
      simp only [rdS, e]
    | ref k => simp [D.pure] at h
    | _ => rfl
section
variable {S S' : List Nat} {h h' : Heap} {B n W : Nat} {d : D} {ds : List D}
theorem Good.pure (a : Good S h B n W d) (p : d.pure = true) : Good S' h' B n W d := by
  obtain ⟨q, e1, e2, e3⟩ := a
  exact ⟨q, by rw [← e1]; exact rdS_pure n d p, e2, e3⟩
theorem Goods.pure (a : Goods S h B n W ds) (p : D.pures ds = true) : Goods S' h' B n W ds := by
  obtain ⟨q, e1, e2, e3⟩ := a
  exact ⟨q, by rw [← e1]; exact mapO_pure (fun d hd => rdS_pure n d hd) ds p, e2, e3⟩
theorem pures_map (kvs : List (KY × D)) (h : (kvs.all fun p => p.2.pure) = true) : D.pures (kvs.map (·.2)) = true := by
  induction kvs with
  | nil => rfl
  | cons a r ih =>
    simp only [List.all_cons, Bool.and_eq_true] at h
    simp only [List.map_cons, D.pures, h.1, ih h.2, Bool.and_self]
/-- a reference to something pure, seen anywhere -/
theorem Good.refPure {r k : Nat} {o : LO} (a : Good S h B n W (.ref r)) (e : h[r]? = some o) (p : o.pure = true) (hk : k ∉ S') (e' : h'[k]? = some o) : Good S' h' B n W (.ref k) := by
  obtain ⟨hr, _⟩ := a.unref
  obtain ⟨q, e1, e2, e3⟩ := a
  refine ⟨q, ?_, e2, e3⟩
  rw [← e1]
  cases n with
  | zero => rfl
  | succ n =>
    have v1 : vw S h r = some o := by unfold vw; rw [if_neg hr]; exact e
    have v2 : vw S' h' k = some o := by unfold vw; rw [if_neg hk]; exact e'
    simp only [rdS, v1, v2]
    cases o with
    | lst ds => simp only [mapO_pure (fun d hd => rdS_pure (f := vw S' h') (g := vw S h) n d hd) ds (by simpa only [LO.pure] using p)]
    | dic kvs => simp only [mapO_pure (fun d hd => rdS_pure (f := vw S' h') (g := vw S h) n d hd) _ (pures_map kvs (by simpa only [LO.pure] using p))]
    | ins c fs => rfl
    | err c v => rfl
end
/-- not a reference to what was there -/
def New (L : Nat) (d : D) : Prop := ∀ r, d = .ref r → L ≤ r
structure GE (B n W : Nat) (e : SE) : Prop where
  run : ∀ σ h, ∃ d g, e σ h = .ok d (h ++ g) ∧ New h.length d ∧ ∀ S : List Nat, (∀ k ∈ S, k < h.length) → Good S (h ++ g) B n W d
structure GA (B n W : Nat) (a : SA) : Prop where
  run : ∀ σ h, ∃ ds g, a σ h = .ok ds (h ++ g) ∧ (∀ d ∈ ds, New h.length d) ∧ ∀ S : List Nat, (∀ k ∈ S, k < h.length) → Goods S (h ++ g) B n W ds
section
variable {B n W W2 : Nat}
theorem ge_c {d : D} (hd : d.pure = true) (hg : ∀ S h, Good S h B n W d) : GE B n W (e_c d) := ⟨fun σ h => ⟨d, [], by simp [e_c], fun r e => by subst e; simp [D.pure] at hd, fun S _ => hg _ _⟩⟩
theorem ge_non : GE B (n + 1) 0 (e_c .non) := ge_c rfl fun _ _ => .non
theorem ge_bl {b : Bool} : GE B (n + 1) 0 (e_c (.bl b)) := ge_c rfl fun _ _ => .bl
theorem ge_int {i : Int} (hB : i.natAbs < B) : GE B (n + 1) (PX.wt (.int i)) (e_c (.int i)) := ge_c rfl fun _ _ => .int hB (Nat.le_refl _)
theorem ge_str {s : Txt} (hs : (s.all fun c => decide (c < 128)) = true) : GE B (n + 1) s.length (e_c (.str s)) := ge_c rfl fun _ _ => .str hs (Nat.le_refl _)
theorem ga_nil : GA B n 0 a_nil := ⟨fun σ h => ⟨[], [], by simp [a_nil], (fun d hd => by cases hd), fun S _ => Goods.nil⟩⟩
theorem ga_cons {e : SE} {a : SA} (x : GE B n W e) (y : GA B n W2 a) : GA B n (W + 1 + W2) (a_cons e a) := ⟨fun σ h => by
  obtain ⟨d, g, e1, nd, e2⟩ := x.run σ h
  obtain ⟨ds, g2, f1, nds, f2⟩ := y.run σ (h ++ g)
  refine ⟨d :: ds, g ++ g2, ?_, fun z hz => ?_, fun S hS => ?_⟩
  · simp only [a_cons, e1, Res.bind_ok, f1, List.append_assoc]
  · rcases List.mem_cons.mp hz with q | q
    · subst q; exact nd
    · exact fun r e => by have := nds z q r e; simp at this; omega
  · rw [← List.append_assoc]
    exact .cons ((e2 S hS).ext Ext.app) (f2 S fun k hk => by have := hS k hk; simp; omega)⟩
theorem ge_tup {a : SA} (x : GA B n W a) (hW : W ≤ LIM) : GE B (n + 1) W (e_tup a) := ⟨fun σ h => by
  obtain ⟨ds, g, e1, nd, e2⟩ := x.run σ h
  have hl : ds.length ≤ LIM := Nat.le_trans (e2 [] (by simp)).len hW
  exact ⟨.tup ds, g, by simp only [e_tup, e1, Res.bind_ok, hl, if_true], fun r e => by (cases e), fun S hS => .tup (e2 S hS)⟩⟩
theorem ge_lst {a : SA} (x : GA B n W a) (hW : W ≤ LIM) : GE B (n + 1) W (e_lst a) := ⟨fun σ h => by
  obtain ⟨ds, g, e1, nd, e2⟩ := x.run σ h
  have hl : ds.length ≤ LIM := Nat.le_trans (e2 [] (by simp)).len hW
  refine ⟨.ref (h ++ g).length, g ++ [.lst ds], by simp only [e_lst, e1, Res.bind_ok, hl, if_true, newO, List.append_assoc], fun r e => by cases e; simp, fun S hS => ?_⟩
  rw [← List.append_assoc]
  exact .lst (fun q => by have := hS _ q; simp at this; omega) get_new ((e2 S hS).ext Ext.app)⟩
theorem ge_dic0 : GE B (n + 1) 0 e_dic0 := ⟨fun σ h => ⟨.ref h.length, [.dic []], rfl, fun r e => by cases e; exact Nat.le_refl _, fun S hS => by
  have ev : vw S (h ++ [.dic []]) h.length = some (.dic []) := by unfold vw; rw [if_neg fun q => by have := hS _ q; omega]; exact get_new
  exact ⟨.dict [], by simp only [rdS, ev]; rfl, by simp [fine, finek], by simp [PX.wt, PX.wtk]⟩⟩⟩
/-- {text: int} -/
theorem ge_disp {s : Txt} {i : Int} (hs : (s.all fun c => decide (c < 128)) = true) (hB : i.natAbs < B) : GE B (n + 2) (s.length + PX.wt (.int i) + 2) (e_disp [(e_c (.str s), e_c (.int i))]) := ⟨fun σ h => ⟨.ref h.length, [.dic [(.s s, .int i)]], by
    simp [e_disp, pairsF, e_c, keyed, keyOf, putKD], fun r e => by cases e; exact Nat.le_refl _, fun S hS => by
  have ev : vw S (h ++ [.dic [(.s s, .int i)]]) h.length = some (.dic [(.s s, .int i)]) := by unfold vw; rw [if_neg fun q => by have := hS _ q; omega]; exact get_new
  refine ⟨.dict [(.s s, .int i)], by simp only [rdS, ev]; rfl, ?_, ?_⟩
  · simp only [fine, finek, hs, Bool.and_true, Bool.true_and]; simpa using hB
  · simp only [PX.wt, PX.wtk]; omega⟩⟩
theorem ge_neg {i : Int} (hB : i.natAbs < B) : GE B (n + 1) (PX.wt (.int (-i))) (e_1 o_neg (e_c (.int i))) := ⟨fun σ h => ⟨.int (-i), [], by simp [e_1, o_neg, e_c], fun r e => by (cases e), fun S hS => .int (by simpa using hB) (Nat.le_refl _)⟩⟩
theorem pow20 {σ : Env} {h : Heap} : e_2 o_pow (e_c (.int 10)) (e_c (.int 20)) σ h = .ok (.int 100000000000000000000) h := by
  simp only [e_2, e_c, Res.bind_ok, o_pow]
  rw [if_pos (by decide +kernel)]
  rfl
theorem ge_pow (hB : 100000000000000000000 < B) : GE B (n + 1) 67 (e_2 o_pow (e_c (.int 10)) (e_c (.int 20))) := ⟨fun σ h => ⟨.int 100000000000000000000, [], by rw [pow20]; simp, fun r e => by (cases e), fun S hS => .int hB (by decide +kernel)⟩⟩
theorem ge_negpow (hB : 100000000000000000000 < B) : GE B (n + 1) 67 (e_1 o_neg (e_2 o_pow (e_c (.int 10)) (e_c (.int 20)))) := ⟨fun σ h => ⟨.int (-100000000000000000000), [], by simp only [e_1, pow20, Res.bind_ok, o_neg]; simp, fun r e => by (cases e), fun S hS => .int (i := -100000000000000000000) (by simpa using hB) (by decide +kernel)⟩⟩
end
/-! a list is made longer -/
theorem gc_non_cases (h h' : Heap) : ∃ h2, gc h (.ok .non h') = .ok .non h2 ∧ (h2 = h' ∨ (agree h h' = true ∧ h2 = h'.take h.length)) := by
  by_cases ag : agree h h' = true
  · exact ⟨_, by simp [gc, ag, D.pure], .inr ⟨ag, rfl⟩⟩
  · exact ⟨h', by simp [gc, ag], .inl rfl⟩
theorem agree_at : ∀ {h h' : Heap} {k : Nat} {o : LO}, agree h h' = true → h[k]? = some o → ∃ o', h'[k]? = some o' ∧ (o'.pure = true ∨ o = o')
  | [], h', k, o, _, e => by cases e
  | a :: h, [], k, o, ag, _ => by simp [agree] at ag
  | a :: h, b :: h', 0, o, ag, e => by
    simp only [agree, Bool.and_eq_true, Bool.or_eq_true, decide_eq_true_eq] at ag
    cases e
    exact ⟨b, rfl, ag.1⟩
  | a :: h, b :: h', k + 1, o, ag, e => by
    simp only [agree, Bool.and_eq_true] at ag
    exact agree_at (k := k) ag.2 e
theorem agree_le : ∀ {h h' : Heap}, agree h h' = true → h.length ≤ h'.length
  | [], h', _ => by simp
  | a :: h, [], ag => by simp [agree] at ag
  | a :: h, b :: h', ag => by
    simp only [agree, Bool.and_eq_true] at ag
    have := agree_le ag.2
    simp; omega
/-- a list at L under way -/
structure Way (h0 : Heap) (B n W L : Nat) (H : Heap) (ds : List D) : Prop where
  at_ : H[L]? = some (.lst ds)
  good : ∀ S' : List Nat, (∀ k ∈ S', k < h0.length ∨ k = L) → Goods S' H B n W ds
  ext : Ext [L] h0 H
  le : h0.length ≤ L
  new : ∀ d ∈ ds, New h0.length d
  ne : 0 < ds.length
theorem extend_spec {h0 H : Heap} {B n W W2 L i : Nat} {ds : List D} {σ : Env} {a : SA} (hi : σ[i]? = some (some (.ref L))) (w : Way h0 B n W L H ds) (x : GA B n W2 a) (hW : W + W2 ≤ LIM) :
    ∃ H' ds', s_expr (e_lm m_extend (e_var i) (e_lst a)) σ H = .nx σ H' ∧ Way h0 B n (W + W2) L H' ds' := by
  obtain ⟨es, g, e1, nd, e2⟩ := x.run σ H
  have hL := get_lt w.at_
  have l1 : ds.length ≤ W := (w.good [] (by simp)).len
  have l2 : es.length ≤ W2 := (e2 [] (by simp)).len
  have hl : es.length ≤ LIM := by omega
  have a1 : ((H ++ g) ++ [LO.lst es])[L]? = some (.lst ds) := get_old (get_old w.at_)
  have a2 : ((H ++ g) ++ [LO.lst es])[(H ++ g).length]? = some (.lst es) := get_new
  generalize hX : (H ++ g) ++ [LO.lst es] = X at a1 a2
  have lX : H.length ≤ X.length := by rw [← hX]; simp
  have le := w.le
  have gX : ∀ S' : List Nat, (∀ k ∈ S', k < h0.length ∨ k = L) → Goods S' X B n (W + W2) (ds ++ es) := fun S' hS => by
    refine .append ((w.good S' hS).ext ?_) ((e2 S' fun k hk => by have := hS k hk; omega).ext ?_)
    · rw [← hX, List.append_assoc]; exact Ext.app
    · rw [← hX]; exact Ext.app
  have run : e_lm m_extend (e_var i) (e_lst a) σ H = .ok .non (X.set L (.lst (ds ++ es))) := by
    have h3 : ds.length + es.length ≤ LIM := by omega
    simp only [e_lm, e_var, hi, Res.bind_ok, isLst, w.at_, if_true, e_lst, e1, hl, newO, hX, m_extend, a1, a2, h3]
  obtain ⟨H', e3, c⟩ := gc_non_cases H (X.set L (.lst (ds ++ es)))
  refine ⟨H', ds ++ es, by simp only [s_expr, run, e3, Res.to_ok], ?_⟩
  have old : ∀ k, k < H.length → H'[k]? = (X.set L (.lst (ds ++ es)))[k]? := fun k hk => by
    rcases c with c | ⟨_, c⟩
    · rw [c]
    · rw [c, List.getElem?_take, if_pos hk]
  have eX : ∀ k, k < H.length → X[k]? = H[k]? := fun k hk => by rw [← hX, List.append_assoc, List.getElem?_append_left hk]
  refine ⟨?_, fun S' hS => ?_, fun k o hk e => ?_, w.le, fun d hd => ?_, by have := w.ne; simp; omega⟩
  · rw [old L hL]; exact get_set a1
  · rcases c with c | ⟨ag, c⟩
    · rw [c]
      have hS2 : ∀ k ∈ (L :: S'), k < h0.length ∨ k = L := fun k hk => by rcases List.mem_cons.mp hk with q | q <;> first | exact hS k q | exact .inr q
      exact ((gX (L :: S') hS2).ext (Ext.set List.mem_cons_self)).less' (fun k hk => List.mem_cons_of_mem _ hk)
    · obtain ⟨o', b1, b2⟩ := agree_at ag w.at_
      rw [get_set a1] at b1
      cases b1
      rcases b2 with b2 | b2
      · exact (gX S' hS).pure (by simpa only [LO.pure] using b2)
      · injection b2 with b2
        have es0 : es = [] := by
          have := congrArg List.length b2
          simp at this
          exact this
        have hH : H' = H := by
          rw [c, ← b2]
          apply List.ext_getElem?
          intro k
          rw [List.getElem?_take]
          by_cases hk : k < H.length
          · rw [if_pos hk]
            by_cases hkL : k = L
            · subst hkL; rw [get_set a1, w.at_]
            · rw [List.getElem?_set_ne (Ne.symm hkL), eX k hk]
          · rw [if_neg hk, List.getElem?_eq_none (by omega)]
        rw [hH, es0, List.append_nil]
        exact (w.good S' hS).mono (Nat.le_refl _) (Nat.le_refl _) (by omega)
  · have e4 := w.ext k o hk e
    have hk2 := get_lt e4
    rw [old k hk2, List.getElem?_set_ne (fun q => hk (by simp [q])), eX k hk2]
    exact e4
  · rcases List.mem_append.mp hd with q | q
    · exact w.new d q
    · exact fun r e => by have := nd d q r e; have := w.le; omega
theorem start_spec {h : Heap} {B n W i : Nat} {σ : Env} {a : SA} (x : GA B n W a) (hW : W ≤ LIM) (hne : ∃ e b, a = a_cons e b) :
    ∃ H L ds, s_asg (e_lst a) (g_name i) σ h = .nx (σ.set i (some (.ref L))) H ∧ Way h B n W L H ds := by
  obtain ⟨ds, g, e1, nd, e2⟩ := x.run σ h
  have hl : ds.length ≤ LIM := Nat.le_trans (e2 [] (by simp)).len hW
  have ne : 0 < ds.length := by
    obtain ⟨e, b, rfl⟩ := hne
    simp only [a_cons] at e1
    cases e3 : e σ h with
    | bad => rw [e3] at e1; cases e1
    | exc c v h' => rw [e3] at e1; cases e1
    | ok x h1 =>
      rw [e3, Res.bind_ok] at e1
      cases e4 : b σ h1 with
      | bad => rw [e4] at e1; cases e1
      | exc c v h' => rw [e4] at e1; cases e1
      | ok xs h2 =>
        rw [e4, Res.bind_ok] at e1
        cases e1
        simp
  have run : e_lst a σ h = .ok (.ref (h ++ g).length) (h ++ (g ++ [.lst ds])) := by simp only [e_lst, e1, Res.bind_ok, hl, if_true, newO, List.append_assoc]
  have at_ : (h ++ (g ++ [LO.lst ds]))[(h ++ g).length]? = some (.lst ds) := by rw [← List.append_assoc]; exact get_new
  by_cases p : D.pures ds = true
  · have g1 := gc_new (h := h) (g := g ++ [.lst ds]) at_ (by simp) (show (LO.lst ds).pure = true from p)
    refine ⟨_, _, ds, by simp only [s_asg, run, g1, Res.to_ok, g_name, onlyNx_nx], get_new, fun S' hS => (e2 [] (by simp)).pure p, Ext.app, Nat.le_refl _, nd, ne⟩
  · have ag : agree h (h ++ (g ++ [LO.lst ds])) = true := agree_app _ _
    have p2 : (LO.lst ds).pure = false := by
      show D.pures ds = false
      simpa using p
    have le : h.length ≤ (h ++ g).length := by simp
    have g1 : gc h (.ok (.ref (h ++ g).length) (h ++ (g ++ [.lst ds]))) = .ok (.ref (h ++ g).length) (h ++ (g ++ [.lst ds])) := by
      simp only [gc, ag, if_true, D.pure, Bool.false_eq_true, if_false, if_pos le, at_, p2]
    refine ⟨_, _, ds, by simp only [s_asg, run, g1, Res.to_ok, g_name, onlyNx_nx], at_, fun S' hS => ?_, Ext.app, by simp, nd, ne⟩
    have q := e2 (S'.filter fun k => decide (k < h.length)) (fun k hk => of_decide_eq_true (List.mem_filter.mp hk).2)
    obtain ⟨qs, f1, f2, f3⟩ := q
    refine ⟨qs, mapO_mono (fun _ _ e0 => rdS_mono (fun k o e => ?_) e0 n (Nat.le_refl _)) f1, f2, f3⟩
    unfold vw at e ⊢
    by_cases hk : k ∈ S'.filter fun k => decide (k < h.length)
    · rw [if_pos hk] at e; cases e
    · rw [if_neg hk] at e
      have hkl := get_lt e
      have : k ∉ S' := fun q => by
        rcases hS k q with z | z
        · exact hk (List.mem_filter.mpr ⟨q, decide_eq_true z⟩)
        · omega
      rw [if_neg this, ← List.append_assoc]
      exact get_old e
/-- a value goes out of a def -/
theorem gc_out {h H : Heap} {p B n W : Nat} {d : D} {l l' : List D} (hp : h[p]? = some (.lst l)) (hP : H[p]? = some (.lst l')) (pl : (LO.lst l').pure = true) (e : Ext [p] h H) (nd : New h.length d) (gd : ∀ S : List Nat, (∀ k ∈ S, k < h.length) → Good S H B n W d) :
    ∃ d' H', gc h (.ok d H) = .ok d' H' ∧ H'[p]? = some (.lst l') ∧ Ext [p] h H' ∧ New h.length d' ∧ ∀ S : List Nat, (∀ k ∈ S, k < h.length) → Good S H' B n W d' := by
  have hpl := get_lt hp
  have ext2 : ∀ H' : Heap, (∀ k, k < h.length → H'[k]? = H[k]?) → Ext [p] h H' := fun H' c k o hk e0 => by
    rw [c k (get_lt e0)]; exact e k o hk e0
  by_cases ag : agree h H = true
  · have tk : ∀ k, k < h.length → (H.take h.length)[k]? = H[k]? := fun k hk => by rw [List.getElem?_take, if_pos hk]
    by_cases pd : d.pure = true
    · exact ⟨d, H.take h.length, by simp [gc, ag, pd], by rw [tk p hpl]; exact hP, ext2 _ tk, nd, fun S hS => (gd [] (by simp)).pure pd⟩
    · have pd' : d.pure = false := by simpa using pd
      cases d with
      | ref r =>
        have hr : h.length ≤ r := nd r rfl
        cases er : H[r]? with
        | none => exact ⟨.ref r, H, by simp [gc, ag, pd', hr, er], hP, e, nd, gd⟩
        | some o =>
          by_cases po : o.pure = true
          · have t2 : ∀ k, k < h.length → (H.take h.length ++ [o])[k]? = H[k]? := fun k hk => by
              have l1 : k < (H.take h.length).length := by have := agree_le ag; rw [List.length_take]; omega
              rw [List.getElem?_append_left l1, tk k hk]
            have lt : (H.take h.length).length = h.length := by have := agree_le ag; rw [List.length_take]; omega
            refine ⟨.ref h.length, H.take h.length ++ [o], by simp [gc, ag, pd', hr, er, po], by rw [t2 p hpl]; exact hP, ext2 _ t2, fun r e => by cases e; exact Nat.le_refl _, fun S hS => ?_⟩
            exact (gd [] (by simp)).refPure er po (fun q => by have := hS _ q; omega) (by have z := get_new (h := H.take h.length) (o := o); rw [lt] at z; exact z)
          · have po' : o.pure = false := by simpa using po
            exact ⟨.ref r, H, by simp [gc, ag, pd', hr, er, po'], hP, e, nd, gd⟩
      | non => simp [D.pure] at pd
      | bl b => simp [D.pure] at pd
      | int i => simp [D.pure] at pd
      | str s => simp [D.pure] at pd
      | tup ds => exact ⟨.tup ds, H, by simp [gc, ag, pd'], hP, e, nd, gd⟩
      | frz ds => exact ⟨.frz ds, H, by simp [gc, ag, pd'], hP, e, nd, gd⟩
  · exact ⟨d, H, by simp [gc, ag], hP, e, nd, gd⟩
/-- _law_odd -/
theorem odd_spec {P : Prog} [Has P] [HasO P] {n p k B : Nat} {h : Heap} {l : List D} (hn : 9 ≤ n) (hp : h[p]? = some (.lst l)) (hl : Pot k l) (hB : 100000000000000000000 < B) (hk : k < 1000000 := by omega) :
    ∃ d H l', callF P n 5 [.ref p] h = .ok d H ∧ H[p]? = some (.lst l') ∧ Pot (k + 1) l' ∧ Ext [p] h H ∧ New h.length d ∧ ∀ S : List Nat, (∀ k ∈ S, k < h.length) → Good S H B 8 600 d := by
  obtain ⟨m, rfl⟩ : ∃ m, n = m + 4 := ⟨n - 4, by omega⟩
  rw [callF_succ _ _ _ _ _ d_law_odd HasO.odd]
  have hpl := get_lt hp
  have B0 : 0 < B := by omega
  obtain ⟨H1, L, ds1, r1, w1⟩ := start_spec (h := h) (B := B) (n := 7) (i := 1) (σ := [some (.ref p), none]) (a := a_cons (e_c .non) (a_cons (e_c (.bl true)) (a_cons (e_c (.bl false)) (a_cons (e_c (.int 0)) (a_cons (e_c (.int 1)) (a_cons (e_1 o_neg (e_c (.int 1))) (a_cons (e_c (.int 2)) (a_cons (e_c (.int 3)) (a_cons (e_c (.int 9)) (a_cons (e_c (.int 10)) (a_cons (e_1 o_neg (e_2 o_pow (e_c (.int 10)) (e_c (.int 20)))) (a_cons (e_2 o_pow (e_c (.int 10)) (e_c (.int 20))) (a_cons (e_c (.str [])) (a_cons (e_c (.str [97])) (a_cons (e_c (.str [120])) (a_cons (e_c (.str [108, 111, 103])) (a_nil)))))))))))))))))
    (ga_cons ge_non (ga_cons ge_bl (ga_cons ge_bl (ga_cons (ge_int (by simp; omega)) (ga_cons (ge_int (by simp; omega)) (ga_cons (ge_neg (by simp; omega)) (ga_cons (ge_int (by simp; omega)) (ga_cons (ge_int (by simp; omega)) (ga_cons (ge_int (by simp; omega)) (ga_cons (ge_int (by simp; omega)) (ga_cons (ge_negpow hB) (ga_cons (ge_pow hB) (ga_cons (ge_str (by decide)) (ga_cons (ge_str (by decide)) (ga_cons (ge_str (by decide)) (ga_cons (ge_str (by decide)) ga_nil)))))))))))))))) (by decide +kernel) ⟨_, _, rfl⟩
  obtain ⟨H2, ds2, r2, w2⟩ := extend_spec (i := 1) (σ := [some (.ref p), some (.ref L)]) (a := a_cons (e_c (.str [76, 111, 103])) (a_cons (e_c (.str [97, 32, 98])) (a_cons (e_c (.str [115, 97, 109, 101])) (a_cons (e_c (.str [115, 116, 97, 110, 100, 115])) (a_cons (e_c (.str [112, 97, 114, 116, 115])) (a_cons (e_c (.str [97, 98, 99, 100, 101, 102, 103, 104])) (a_cons (e_c (.str [97, 98, 99, 100, 101, 102, 103, 104, 105])) (a_cons (e_c (.str [110, 101, 120, 116])) (a_cons (e_tup (a_nil)) (a_cons (e_lst (a_nil)) (a_cons (e_dic0) (a_nil)))))))))))) rfl w1
    (ga_cons (ge_str (by decide)) (ga_cons (ge_str (by decide)) (ga_cons (ge_str (by decide)) (ga_cons (ge_str (by decide)) (ga_cons (ge_str (by decide)) (ga_cons (ge_str (by decide)) (ga_cons (ge_str (by decide)) (ga_cons (ge_str (by decide)) (ga_cons (ge_tup (ga_nil) (by decide +kernel)) (ga_cons (ge_lst (ga_nil) (by decide +kernel)) (ga_cons ge_dic0 ga_nil))))))))))) (by decide +kernel)
  obtain ⟨H3, ds3, r3, w3⟩ := extend_spec (i := 1) (σ := [some (.ref p), some (.ref L)]) (a := a_cons (e_tup (a_cons (e_c (.str [108, 111, 103])) (a_nil))) (a_cons (e_lst (a_cons (e_c (.str [108, 111, 103])) (a_nil))) (a_cons (e_tup (a_cons (e_c (.str [98])) (a_cons (e_c (.str [97])) (a_nil)))) (a_cons (e_tup (a_cons (e_c (.str [97])) (a_cons (e_c (.str [97])) (a_nil)))) (a_cons (e_tup (a_cons (e_c (.str [97])) (a_cons (e_c (.str [98])) (a_nil)))) (a_cons (e_disp [(e_c (.str [97]), e_c (.int 1))]) (a_cons (e_tup (a_cons (e_tup (a_nil)) (a_cons (e_tup (a_nil)) (a_nil)))) (a_cons (e_tup (a_cons (e_tup (a_nil)) (a_cons (e_tup (a_nil)) (a_cons (e_tup (a_nil)) (a_nil))))) (a_nil))))))))) rfl w2
    (ga_cons (ge_tup (ga_cons (ge_str (by decide)) ga_nil) (by decide +kernel)) (ga_cons (ge_lst (ga_cons (ge_str (by decide)) ga_nil) (by decide +kernel)) (ga_cons (ge_tup (ga_cons (ge_str (by decide)) (ga_cons (ge_str (by decide)) ga_nil)) (by decide +kernel)) (ga_cons (ge_tup (ga_cons (ge_str (by decide)) (ga_cons (ge_str (by decide)) ga_nil)) (by decide +kernel)) (ga_cons (ge_tup (ga_cons (ge_str (by decide)) (ga_cons (ge_str (by decide)) ga_nil)) (by decide +kernel)) (ga_cons (ge_disp (by decide) (by simp; omega)) (ga_cons (ge_tup (ga_cons (ge_tup (ga_nil) (by decide +kernel)) (ga_cons (ge_tup (ga_nil) (by decide +kernel)) ga_nil)) (by decide +kernel)) (ga_cons (ge_tup (ga_cons (ge_tup (ga_nil) (by decide +kernel)) (ga_cons (ge_tup (ga_nil) (by decide +kernel)) (ga_cons (ge_tup (ga_nil) (by decide +kernel)) ga_nil))) (by decide +kernel)) ga_nil)))))))) (by decide +kernel)
  obtain ⟨H4, ds4, r4, w4⟩ := extend_spec (i := 1) (σ := [some (.ref p), some (.ref L)]) (a := a_cons (e_tup (a_cons (e_c (.str [115, 97, 109, 101])) (a_cons (e_tup (a_nil)) (a_nil)))) (a_cons (e_tup (a_cons (e_c (.str [112, 97, 114, 116, 115])) (a_cons (e_tup (a_nil)) (a_nil)))) (a_cons (e_tup (a_cons (e_c (.str [115, 116, 97, 110, 100, 115])) (a_cons (e_tup (a_cons (e_tup (a_nil)) (a_cons (e_tup (a_nil)) (a_nil)))) (a_nil)))) (a_cons (e_tup (a_cons (e_tup (a_cons (e_tup (a_cons (e_tup (a_cons (e_c (.int 1)) (a_nil))) (a_nil))) (a_nil))) (a_nil))) (a_cons (e_lst (a_cons (e_lst (a_cons (e_tup (a_cons (e_c (.str [120])) (a_cons (e_c (.int 1)) (a_nil)))) (a_nil))) (a_cons (e_tup (a_nil)) (a_nil)))) (a_nil)))))) rfl w3
    (ga_cons (ge_tup (ga_cons (ge_str (by decide)) (ga_cons (ge_tup (ga_nil) (by decide +kernel)) ga_nil)) (by decide +kernel)) (ga_cons (ge_tup (ga_cons (ge_str (by decide)) (ga_cons (ge_tup (ga_nil) (by decide +kernel)) ga_nil)) (by decide +kernel)) (ga_cons (ge_tup (ga_cons (ge_str (by decide)) (ga_cons (ge_tup (ga_cons (ge_tup (ga_nil) (by decide +kernel)) (ga_cons (ge_tup (ga_nil) (by decide +kernel)) ga_nil)) (by decide +kernel)) ga_nil)) (by decide +kernel)) (ga_cons (ge_tup (ga_cons (ge_tup (ga_cons (ge_tup (ga_cons (ge_tup (ga_cons (ge_int (by simp; omega)) ga_nil) (by decide +kernel)) ga_nil) (by decide +kernel)) ga_nil) (by decide +kernel)) ga_nil) (by decide +kernel)) (ga_cons (ge_lst (ga_cons (ge_lst (ga_cons (ge_tup (ga_cons (ge_str (by decide)) (ga_cons (ge_int (by simp; omega)) ga_nil)) (by decide +kernel)) ga_nil) (by decide +kernel)) (ga_cons (ge_tup (ga_nil) (by decide +kernel)) ga_nil)) (by decide +kernel)) ga_nil))))) (by decide +kernel)
  obtain ⟨H5, ds5, r5, w5⟩ := extend_spec (i := 1) (σ := [some (.ref p), some (.ref L)]) (a := a_cons (e_tup (a_cons (e_c (.str [103, 111])) (a_cons (e_tup (a_nil)) (a_nil)))) (a_cons (e_tup (a_cons (e_tup (a_cons (e_c (.str [103, 111])) (a_cons (e_tup (a_nil)) (a_nil)))) (a_nil))) (a_cons (e_tup (a_cons (e_c (.int 0)) (a_nil))) (a_cons (e_tup (a_cons (e_c (.bl true)) (a_nil))) (a_cons (e_tup (a_cons (e_c .non) (a_nil))) (a_cons (e_tup (a_cons (e_c (.str [120])) (a_cons (e_lst (a_nil)) (a_nil)))) (a_nil))))))) rfl w4
    (ga_cons (ge_tup (ga_cons (ge_str (by decide)) (ga_cons (ge_tup (ga_nil) (by decide +kernel)) ga_nil)) (by decide +kernel)) (ga_cons (ge_tup (ga_cons (ge_tup (ga_cons (ge_str (by decide)) (ga_cons (ge_tup (ga_nil) (by decide +kernel)) ga_nil)) (by decide +kernel)) ga_nil) (by decide +kernel)) (ga_cons (ge_tup (ga_cons (ge_int (by simp; omega)) ga_nil) (by decide +kernel)) (ga_cons (ge_tup (ga_cons ge_bl ga_nil) (by decide +kernel)) (ga_cons (ge_tup (ga_cons ge_non ga_nil) (by decide +kernel)) (ga_cons (ge_tup (ga_cons (ge_str (by decide)) (ga_cons (ge_lst (ga_nil) (by decide +kernel)) ga_nil)) (by decide +kernel)) ga_nil)))))) (by decide +kernel)
  have at_ := w5.at_
  have pL : p ≠ L := by have := w5.le; omega
  have eP : H5[p]? = some (.lst l) := w5.ext p _ (by simp [pL]) hp
  have few : ds5.length ≤ 600 := Nat.le_trans (w5.good [] (by simp)).len (by decide +kernel)
  obtain ⟨d, l', e5, hl', hm⟩ := of_spec (P := P) (n := m + 3) (by omega) eP at_ (Ne.symm pL) hl hk w5.ne (by omega)
  have good : ∀ S : List Nat, (∀ k ∈ S, k < h.length) → Good S (H5.set p (.lst l')) B 8 600 d := fun S hS => by
    have q := w5.good (p :: S) (fun k hk => by rcases List.mem_cons.mp hk with q | q <;> first | exact .inl (hS k q) | exact .inl (by omega))
    exact (((q.ext (Ext.set List.mem_cons_self)).less' (S' := S) fun k hk => List.mem_cons_of_mem _ hk).mem hm).mono (Nat.le_refl _) (by omega) (by decide +kernel)
  have ext : Ext [p] h (H5.set p (.lst l')) := fun k o hk e => by
    have hk' : k ≠ p := by simpa using hk
    rw [List.getElem?_set_ne (Ne.symm hk')]
    exact w5.ext k o (by have := get_lt e; have := w5.le; simp; omega) e
  obtain ⟨d', H', g1, g2, g3, g4, g5⟩ := gc_out hp (get_set eP) hl'.pure ext (w5.new d hm) good
  refine ⟨d', H', l', ?_, g2, hl', g3, g4, g5⟩
  rw [run_rt rfl (v := d) (h' := H5.set p (.lst l')) ?_]
  · exact g1
  · show b_law_odd (kap P m) _ _ = _
    unfold b_law_odd
    rw [s_cons, show s_asg _ (g_name 1) ([D.ref p].map some ++ List.replicate (d_law_odd.n - d_law_odd.np) none) h = _ from r1]
    simp only [Flow.then, List.set_cons_succ, List.set_cons_zero]
    rw [s_cons, r2]
    simp only [Flow.then]
    rw [s_cons, r3]
    simp only [Flow.then]
    rw [s_cons, r4]
    simp only [Flow.then]
    rw [s_cons, r5]
    simp only [Flow.then]
    simp only [s_ret, e_call, a_cons, a_nil, e_var, List.getElem?_cons_zero, List.getElem?_cons_succ, Res.bind_ok, e5, Res.to_ok]
end Lw
end

section
set_option linter.all false
set_option autoImplicit false
set_option maxRecDepth 100000
set_option maxHeartbeats 1000000
/-! a value with one thing otherwise -/
namespace Lw
open IR
structure St (p k : Nat) (h H : Heap) : Prop where
  pot : ∃ l, H[p]? = some (.lst l) ∧ Pot k l
  ext : Ext [p] h H
theorem St.mono {p k j : Nat} {h H : Heap} (s : St p k h H) (hk : k ≤ j) : St p j h H := ⟨let ⟨l, a, b⟩ := s.pot; ⟨l, a, b.mono hk⟩, s.ext⟩
theorem St.trans {p k j : Nat} {h H X : Heap} (s : St p k h H) (t : St p j H X) : St p j h X := ⟨t.pot, s.ext.trans t.ext⟩
theorem St.le {p k : Nat} {h H : Heap} (s : St p k h H) : h.length ≤ H.length := by
  by_cases h0 : h.length = 0
  · omega
  · by_cases hp : h.length - 1 = p
    · obtain ⟨l, a, _⟩ := s.pot
      have := get_lt a
      omega
    · have e : h[h.length - 1]? = some h[h.length - 1] := List.getElem?_eq_getElem (by omega)
      have := get_lt (s.ext _ _ (by simpa using hp) e)
      omega
theorem St.app {p k : Nat} {h H : Heap} (s : St p k h H) (g : Heap) : St p k h (H ++ g) := ⟨let ⟨l, a, b⟩ := s.pot; ⟨l, get_old a, b⟩, s.ext.trans Ext.app⟩
theorem St.self {p k : Nat} {h : Heap} {l : List D} (hp : h[p]? = some (.lst l)) (hl : Pot k l) : St p k h h := ⟨⟨l, hp, hl⟩, Ext.refl⟩
/-- a draw -/
theorem St.take {P : Prog} [Has P] {n p k : Nat} {h H : Heap} (s : St p k h H) {u : Int} (hn : 4 ≤ n) (hk : k < 1000000 := by omega) (hu : 0 < u := by omega) (hu2 : u < 1073741824 := by omega) :
    ∃ d H', callF P n 0 [.ref p, .int u] H = .ok (.int d) H' ∧ St p (k + 1) h H' ∧ 0 ≤ d ∧ d < u ∧ gc H (.ok (.int d) H') = .ok (.int d) H' ∧ ∀ b : Bool, gcB H (.ok b H') = .ok b H' := by
  obtain ⟨l, a, b⟩ := s.pot
  obtain ⟨d, l', e, hl', d0, d1⟩ := take_spec (P := P) hn a b hk hu hu2
  exact ⟨d, _, e, ⟨⟨l', get_set a, hl'⟩, s.ext.trans (Ext.set (by simp))⟩, d0, d1, gc_any hl'.pure, fun b => gcB_set0 hl'.pure⟩
/-- an odd value -/
theorem St.odd {P : Prog} [Has P] [HasO P] {n p k B : Nat} {h H : Heap} (s : St p k h H) (hn : 9 ≤ n) (hB : 100000000000000000000 < B) (hk : k < 1000000 := by omega) :
    ∃ d H', callF P n 5 [.ref p] H = .ok d H' ∧ St p (k + 1) h H' ∧ St p (k + 1) H H' ∧ New H.length d ∧ Good [p] H' B 8 600 d := by
  obtain ⟨l, a, b⟩ := s.pot
  obtain ⟨d, H', l', e, e1, e2, e3, e4, e5⟩ := odd_spec (P := P) hn a b hB hk
  exact ⟨d, H', e, ⟨⟨l', e1, e2⟩, s.ext.trans e3⟩, ⟨⟨l', e1, e2⟩, e3⟩, e4, e5 [p] fun k hk => by rw [List.mem_singleton] at hk; rw [hk]; exact get_lt a⟩
theorem gc_out1 {h H : Heap} {p k j B n W : Nat} {d : D} (s0 : St p j h h) (s : St p k h H) (nd : New h.length d) (gd : Good [p] H B n W d) :
    ∃ d' H', gc h (.ok d H) = .ok d' H' ∧ St p k h H' ∧ New h.length d' ∧ Good [p] H' B n W d' := by
  obtain ⟨l0, a0, b0⟩ := s0.pot
  obtain ⟨l', hP, hl'⟩ := s.pot
  have hpl := get_lt a0
  have e := s.ext
  have pl := hl'.pure
  have ext2 : ∀ H' : Heap, (∀ k, k < h.length → H'[k]? = H[k]?) → St p k h H' := fun H' c => ⟨⟨l', by rw [c p hpl]; exact hP, hl'⟩, fun k o hk e0 => by
    rw [c k (get_lt e0)]; exact e k o hk e0⟩
  by_cases ag : agree h H = true
  · have tk : ∀ k, k < h.length → (H.take h.length)[k]? = H[k]? := fun k hk => by rw [List.getElem?_take, if_pos hk]
    by_cases pd : d.pure = true
    · exact ⟨d, H.take h.length, by simp [gc, ag, pd], ext2 _ tk, nd, gd.pure pd⟩
    · have pd' : d.pure = false := by simpa using pd
      cases d with
      | ref r =>
        have hr : h.length ≤ r := nd r rfl
        cases er : H[r]? with
        | none => exact ⟨.ref r, H, by simp [gc, ag, pd', hr, er], s, nd, gd⟩
        | some o =>
          by_cases po : o.pure = true
          · have lt : (H.take h.length).length = h.length := by have := agree_le ag; rw [List.length_take]; omega
            have t2 : ∀ k, k < h.length → (H.take h.length ++ [o])[k]? = H[k]? := fun k hk => by
              rw [List.getElem?_append_left (by omega), tk k hk]
            refine ⟨.ref h.length, H.take h.length ++ [o], by simp [gc, ag, pd', hr, er, po], ext2 _ t2, fun r e => by cases e; exact Nat.le_refl _, ?_⟩
            exact gd.refPure er po (fun q => by rw [List.mem_singleton] at q; omega) (by have z := get_new (h := H.take h.length) (o := o); rw [lt] at z; exact z)
          · have po' : o.pure = false := by simpa using po
            exact ⟨.ref r, H, by simp [gc, ag, pd', hr, er, po'], s, nd, gd⟩
      | non => simp [D.pure] at pd
      | bl b => simp [D.pure] at pd
      | int i => simp [D.pure] at pd
      | str s => simp [D.pure] at pd
      | tup ds => exact ⟨.tup ds, H, by simp [gc, ag, pd'], s, nd, gd⟩
      | frz ds => exact ⟨.frz ds, H, by simp [gc, ag, pd'], s, nd, gd⟩
  · exact ⟨d, H, by simp [gc, ag], s, nd, gd⟩
theorem cut_sub {α : Type} (xs : List α) (lo hi : Option Int) : (cut xs lo hi).Sublist xs := (List.take_sublist _ _).trans (List.drop_sublist _ _)
theorem all_sub {s t : Txt} (h : (s.all fun c => decide (c < 128)) = true) (m : ∀ c ∈ t, c ∈ s) : (t.all fun c => decide (c < 128)) = true := List.all_eq_true.mpr fun c hc => List.all_eq_true.mp h c (m c hc)
theorem up_ascii {s : Txt} (h : (s.all fun c => decide (c < 128)) = true) : ((s.map upC).all fun c => decide (c < 128)) = true := by
  refine List.all_eq_true.mpr fun c hc => decide_eq_true ?_
  obtain ⟨x, hx, rfl⟩ := List.mem_map.mp hc
  have := of_decide_eq_true (List.all_eq_true.mp h x hx)
  unfold upC
  split <;> omega
/-- what is near a text -/
theorem near_txt {h : Heap} {S : List Nat} {B n W : Nat} {s : Txt} (hs : (s.all fun c => decide (c < 128)) = true) (hW : s.length ≤ W) :
    ∀ d ∈ [D.str (s ++ [120]), .str (cut s none (some (-1))), .str (cut s (some 1) none), .str (s.map upC), .tup [.str s], .str (120 :: s), .str (s ++ [32])], Good S h B (n + 2) (W + 1) d := by
  intro d hd
  simp only [List.mem_cons, List.not_mem_nil, or_false] at hd
  have sub : ∀ lo hi, Good S h B (n + 2) (W + 1) (.str (cut s lo hi)) := fun lo hi => .str (all_sub hs fun c hc => (cut_sub s lo hi).subset hc) (by have := (cut_sub s lo hi).length_le; omega)
  rcases hd with rfl | rfl | rfl | rfl | rfl | rfl | rfl
  · exact .str (by simp only [List.all_append, hs, Bool.true_and]; decide) (by simp; omega)
  · exact sub _ _
  · exact sub _ _
  · exact .str (up_ascii hs) (by simp; omega)
  · exact (Good.tup (.cons (.str hs hW) .nil)).mono (Nat.le_refl _) (Nat.le_refl _) (by omega)
  · exact .str (by simp only [List.all_cons, hs, Bool.and_true]; decide) (by simp; omega)
  · exact .str (by simp only [List.all_append, hs, Bool.true_and]; decide) (by simp; omega)
theorem leaf_txt {P : Prog} [Has P] [HasO P] {sub : Nat → Nat → Bool} [HasC P sub] {n p k B W : Nat} {h : Heap} {s : Txt} (hn : 13 ≤ n) (s0 : St p k h h) (hs : (s.all fun c => decide (c < 128)) = true) (hW : s.length ≤ W) (hW2 : W ≤ 100000) (hB : 100000000000000000000 < B) (hk : k < 999000 := by omega) :
    ∃ d H, callF P n 9 [.ref p, .str s] h = .ok d H ∧ St p (k + 2) h H ∧ New h.length d ∧ Good [p] H B 8 (W + 600) d := by
  obtain ⟨m, rfl⟩ : ∃ m, n = m + 4 := ⟨n - 4, by omega⟩
  rw [callF_succ _ _ _ _ _ (d_law_changed_leaf sub) HasC.changed_leaf]
  obtain ⟨w, H1, e1, s1, w0, w1, g1, b1⟩ := s0.take (P := P) (n := m + 3) (u := 8) (by omega)
  have l3 : s.length + 1 ≤ 16777216 := by omega
  have l4 : s.length ≤ 16777216 := by omega
  have l5 : s.length ≤ 5592405 := by omega
  have l6 : 1 + s.length ≤ 16777216 := by omega
  have hs2 : ∀ x ∈ s, x < 128 := fun x hx => of_decide_eq_true (List.all_eq_true.mp hs x hx)
  have gB : ∀ b : Bool, gcB H1 (.ok b H1) = .ok b H1 := fun b => gcB_self
  have gL : gc H1 (.ok (.ref H1.length) (H1 ++ [.lst [D.str (s ++ [120]), .str (cut s none (some (-1))), .str (cut s (some 1) none), .str (s.map upC), .tup [.str s], .str (120 :: s), .str (s ++ [32])]])) = .ok (.ref H1.length) (H1 ++ [.lst [D.str (s ++ [120]), .str (cut s none (some (-1))), .str (cut s (some 1) none), .str (s.map upC), .tup [.str s], .str (120 :: s), .str (s ++ [32])]]) := gc_new get_new (Nat.le_refl _) rfl
  have aL : (H1 ++ [LO.lst [D.str (s ++ [120]), .str (cut s none (some (-1))), .str (cut s (some 1) none), .str (s.map upC), .tup [.str s], .str (120 :: s), .str (s ++ [32])]])[H1.length]? = some (.lst [D.str (s ++ [120]), .str (cut s none (some (-1))), .str (cut s (some 1) none), .str (s.map upC), .tup [.str s], .str (120 :: s), .str (s ++ [32])]) := get_new
  have near := near_txt (h := H1 ++ [LO.lst [D.str (s ++ [120]), .str (cut s none (some (-1))), .str (cut s (some 1) none), .str (s.map upC), .tup [.str s], .str (120 :: s), .str (s ++ [32])]]) (S := [p]) (B := B) (n := 6) hs hW
  have s2 := s1.app [LO.lst [D.str (s ++ [120]), .str (cut s none (some (-1))), .str (cut s (some 1) none), .str (s.map upC), .tup [.str s], .str (120 :: s), .str (s ++ [32])]]
  have np : ∀ d ∈ [D.str (s ++ [120]), .str (cut s none (some (-1))), .str (cut s (some 1) none), .str (s.map upC), .tup [.str s], .str (120 :: s), .str (s ++ [32])], New h.length d := by
    intro d hd r e
    subst e
    simp at hd
  have gB2 : ∀ b : Bool, gcB (H1 ++ [LO.lst [D.str (s ++ [120]), .str (cut s none (some (-1))), .str (cut s (some 1) none), .str (s.map upC), .tup [.str s], .str (120 :: s), .str (s ++ [32])]]) (.ok b (H1 ++ [LO.lst [D.str (s ++ [120]), .str (cut s none (some (-1))), .str (cut s (some 1) none), .str (s.map upC), .tup [.str s], .str (120 :: s), .str (s ++ [32])]])) = .ok b (H1 ++ [LO.lst [D.str (s ++ [120]), .str (cut s none (some (-1))), .str (cut s (some 1) none), .str (s.map upC), .tup [.str s], .str (120 :: s), .str (s ++ [32])]]) := fun b => gcB_self
  generalize hN : [D.str (s ++ [120]), .str (cut s none (some (-1))), .str (cut s (some 1) none), .str (s.map upC), .tup [.str s], .str (120 :: s), .str (s ++ [32])] = N at gL aL near s2 np gB2
  have lN : N.length = 7 := by rw [← hN]; rfl
  have fin : ∃ d H, (e_if (t_b (e_2 o_lt (e_var 2) (e_c (.int 7)))) (e_2 o_item (e_var 3) (e_var 2)) (e_call ((kap P m).fn 5) (a_cons (e_var 0) (a_nil)))) [some (.ref p), some (.str s), some (.int w), some (.ref H1.length)] (H1 ++ [.lst N]) = .ok d H ∧ St p (k + 2) h H ∧ New h.length d ∧ Good [p] H B 8 (W + 600) d := by
    by_cases h7 : w < 7
    · obtain ⟨x, x1, x2⟩ := at_nat (xs := N) w0 (by rw [lN]; omega)
      have xm : x ∈ N := List.mem_of_getElem? x2
      refine ⟨x, _, ?_, s2.mono (by omega), np x xm, (near x xm).mono (Nat.le_refl _) (by omega) (by omega)⟩
      simp [e_if, t_b, e_2, e_var, e_c, o_lt, okB, asB, liftO_some, h7, o_item, items, aL, x1]
    · obtain ⟨d, H', e, t1, t2, t3, t4⟩ := s2.odd (P := P) (n := m + 3) (B := B) (by omega) hB
      refine ⟨d, H', ?_, t1, fun r q => ?_, t4.mono (Nat.le_refl _) (by omega) (by omega)⟩
      · simp [e_if, t_b, e_2, e_var, e_c, o_lt, okB, asB, liftO_some, h7, e_call, a_cons, a_nil, e]
      · have z := t3 r q
        have z2 := s1.le
        rw [List.length_append] at z
        omega
  obtain ⟨d, H, ef, sf, nf, gf⟩ := fin
  obtain ⟨d', H', o1, o2, o3, o4⟩ := gc_out1 s0 sf nf gf
  refine ⟨d', H', ?_, o2, o3, o4⟩
  rw [run_rt rfl (v := d) (h' := H) ?_]
  · exact o1
  · show b_law_changed_leaf sub (kap P m) _ _ = _
    unfold b_law_changed_leaf
    have r1 : s_asg (e_call ((kap P m).fn 0) (a_cons (e_var 0) (a_cons (e_c (.int 8)) (a_nil)))) (g_name 2) ([D.ref p, D.str s].map some ++ List.replicate ((d_law_changed_leaf sub).n - (d_law_changed_leaf sub).np) none) h = .nx [some (.ref p), some (.str s), some (.int w), none] H1 := by
      simp [s_asg, e_call, a_cons, a_nil, e_var, e_c, e1, g1, g_name, d_law_changed_leaf]
    have gL' := gL
    rw [← hN] at gL'
    rw [s_cons, r1]
    simp only [Flow.then, s_cons]
    have r2 : s_if (t_or (t_e (e_1 (o_isa sub .tBool) (e_var 1))) (t_not (t_e (e_1 (o_isa2 sub .tInt .tStr) (e_var 1))))) (s_ret (e_call ((kap P m).fn 5) (a_cons (e_var 0) (a_nil)))) (s_nil) [some (.ref p), some (.str s), some (.int w), none] H1 = .nx [some (.ref p), some (.str s), some (.int w), none] H1 := by
      simp [s_if, t_or, t_not, t_e, e_1, e_var, o_isa, o_isa2, isTy, isErr, Ty.str, liftO_some, okB, truth, gB, s_nil]
    rw [r2]
    simp only [Flow.then]
    have r3 : ∀ f : SS, s_if (t_e (e_1 (o_isa sub .tInt) (e_var 1))) f (s_nil) [some (.ref p), some (.str s), some (.int w), none] H1 = .nx [some (.ref p), some (.str s), some (.int w), none] H1 := by
      intro f
      simp [s_if, t_e, e_1, e_var, o_isa, isTy, Ty.str, liftO_some, okB, truth, gB, s_nil]
    rw [r3]
    simp only [Flow.then]
    have r4 : s_asg (e_lst (a_cons (e_2 o_add (e_var 1) (e_c (.str [120]))) (a_cons (e_slice (e_var 1) so_none (so_some (e_1 o_neg (e_c (.int 1))))) (a_cons (e_slice (e_var 1) (so_some (e_c (.int 1))) so_none) (a_cons (e_1 o_upper (e_var 1)) (a_cons (e_tup (a_cons (e_var 1) (a_nil))) (a_cons (e_2 o_add (e_c (.str [120])) (e_var 1)) (a_cons (e_2 o_add (e_var 1) (e_c (.str [32]))) (a_nil))))))))) (g_name 3) [some (.ref p), some (.str s), some (.int w), none] H1 = .nx [some (.ref p), some (.str s), some (.int w), some (.ref H1.length)] (H1 ++ [.lst N]) := by
      have el : (e_lst (a_cons (e_2 o_add (e_var 1) (e_c (.str [120]))) (a_cons (e_slice (e_var 1) so_none (so_some (e_1 o_neg (e_c (.int 1))))) (a_cons (e_slice (e_var 1) (so_some (e_c (.int 1))) so_none) (a_cons (e_1 o_upper (e_var 1)) (a_cons (e_tup (a_cons (e_var 1) (a_nil))) (a_cons (e_2 o_add (e_c (.str [120])) (e_var 1)) (a_cons (e_2 o_add (e_var 1) (e_c (.str [32]))) (a_nil))))))))) [some (.ref p), some (.str s), some (.int w), none] H1 = .ok (.ref H1.length) (H1 ++ [.lst N]) := by
        rw [← hN]
        have up : o_upper (.str s) H1 = .ok (.str (s.map upC)) H1 := by simp only [o_upper]; rw [if_pos ⟨hs, l5⟩]
        simp [e_lst, a_cons, a_nil, e_2, e_1, e_var, e_c, o_add, l3, l4, l5, l6, LIM, e_slice, so_none, so_some, o_neg, asI, liftO_some, o_slice, up, e_tup, newO]
      simp only [s_asg, el, gL, Res.to_ok, g_name, onlyNx_nx, List.set_cons_succ, List.set_cons_zero]
    rw [r4]
    simp only [Flow.then, s_ret, ef, Res.to_ok]
end Lw
end

section
set_option linter.all false
set_option autoImplicit false
set_option maxRecDepth 100000
set_option maxHeartbeats 1000000
/-! a row of names with one thing otherwise -/
namespace Lw
open IR
theorem eq_int {h : Heap} (i j : Int) : o_eq (.int i) (.int j) h = .ok (.bl (decide (i = j))) h := by
  by_cases e : i = j
  · subst e; simp [o_eq, eqD, rd, PD.eqv, liftO_some, okB]
  · simp [o_eq, eqD, rd, PD.eqv, liftO_some, okB, e]
theorem rd_txts (h : Heap) (n : Nat) : ∀ ns : List Txt, mapO (rd h (n + 1)) (txts ns) = some (ns.map PD.str)
  | [] => rfl
  | a :: r => by
    have ih := rd_txts h n r
    have e : txts (a :: r) = .str a :: txts r := rfl
    have e1 : rd h (n + 1) (.str a) = some (.str a) := rfl
    rw [e]
    simp only [mapO, e1, ih, List.map_cons]
theorem eqv_nil (ns : List Txt) : PD.eqv (.tuple (ns.map PD.str)) (.tuple []) = ns.isEmpty := by
  cases ns <;> simp [PD.eqv, PD.eqvs]
theorem eq_empty {h : Heap} (ns : List Txt) : eqD h (.tup (txts ns)) (.tup []) = some ns.isEmpty := by
  have e1 : rd h DEEP (.tup (txts ns)) = some (.tuple (ns.map PD.str)) := by
    show Option.map PD.tuple (mapO (rd h (58 + 1)) (txts ns)) = _
    rw [rd_txts]
    rfl
  have e2 : rd h DEEP (.tup []) = some (.tuple []) := rfl
  simp only [eqD, e1, e2, eqv_nil]
theorem goods_txts {S : List Nat} {h : Heap} {B n : Nat} : ∀ {ns : List Txt}, (∀ w ∈ ns, (w.all fun c => decide (c < 128)) = true ∧ w.length ≤ 8) → Goods S h B (n + 1) (9 * ns.length) (txts ns)
  | [], _ => Goods.nil
  | a :: r, hw => by
    have ih := goods_txts (S := S) (h := h) (B := B) (n := n) (ns := r) fun w h => hw w (List.mem_cons_of_mem _ h)
    have ha := hw a List.mem_cons_self
    have := Goods.cons (Good.str (S := S) (h := h) (B := B) (n := n) ha.1 ha.2) ih
    exact this.mono (Nat.le_refl _) (Nat.le_refl _) (by simp only [List.length_cons]; omega)
section
variable {P : Prog} [Has P] [HasO P] {n p k B : Nat} {h : Heap} {ns : List Txt}
abbrev Plain (ns : List Txt) : Prop := ∀ w ∈ ns, (w.all fun c => decide (c < 128)) = true ∧ w.length ≤ 8
theorem new_tup {L : Nat} {ds : List D} : New L (.tup ds) := fun r e => by cases e
/-- of parts of it -/
theorem good_cat {S : List Nat} {H : Heap} {W : Nat} {xs ys zs : List D} (pl : Plain ns) (hx : xs.Sublist (txts ns)) (hz : zs.Sublist (txts ns)) (hy : Goods S H B 8 W ys) (few : ns.length ≤ 20) : Good S H B 9 (W + 400) (.tup (xs ++ ys ++ zs)) := by
  have a := (goods_txts (S := S) (h := H) (B := B) (n := 7) pl).sub hx
  have b := (goods_txts (S := S) (h := H) (B := B) (n := 7) pl).sub hz
  exact (Good.tup ((a.append hy).append b)).mono (Nat.le_refl _) (Nat.le_refl _) (by omega)
theorem row_spec {sub : Nat → Nat → Bool} [HasC P sub] (hn : 13 ≤ n) (s0 : St p k h h) (pl : Plain ns) (few : ns.length ≤ 20) (hB : 100000000000000000000 < B) (hk : k < 999000 := by omega) :
    ∃ d H, callF P n 8 [.ref p, .tup (txts ns)] h = .ok d H ∧ St p (k + 3) h H ∧ New h.length d ∧ Good [p] H B 9 1200 d := by
  obtain ⟨m, rfl⟩ : ∃ m, n = m + 4 := ⟨n - 4, by omega⟩
  rw [callF_succ _ _ _ _ _ d_law_changed_row HasC.changed_row]
  obtain ⟨w, H1, e1, s1, w0, w1, -, -⟩ := s0.take (P := P) (n := m + 3) (u := 9) (by omega)
  have ln : (txts ns).length = ns.length := by simp
  obtain ⟨t, H2, e2, s2, t0, t1, -, -⟩ := s1.take (P := P) (n := m + 3) (u := (ns.length : Int) + 1) (by omega)
  have all : Goods [p] H2 B 8 180 (txts ns) := (goods_txts (n := 7) pl).mono (Nat.le_refl _) (Nat.le_refl _) (by omega)
  have cs : ∀ lo hi, (cut (txts ns) lo hi).Sublist (txts ns) := cut_sub _
  have core : ∃ d H, b_law_changed_row (kap P m) [some (.ref p), some (.tup (txts ns)), none, none] h = .rt d H ∧ St p (k + 3) h H ∧ New h.length d ∧ Good [p] H B 9 1200 d := by
    unfold b_law_changed_row
    have r0 : s_par 2 3 (e_call ((kap P m).fn 0) (a_cons (e_var 0) (a_cons (e_c (.int 9)) (a_nil)))) (e_call ((kap P m).fn 0) (a_cons (e_var 0) (a_cons (e_2 o_add (e_call b_len (a_cons (e_var 1) (a_nil))) (e_c (.int 1))) (a_nil)))) [some (.ref p), some (.tup (txts ns)), none, none] h = .nx [some (.ref p), some (.tup (txts ns)), some (.int w), some (.int t)] H2 := by
      simp [s_par, e_call, a_cons, a_nil, e_var, e_c, e1, e_2, b_len, lenD, liftO_some, o_add, ln, e2]
    rw [s_cons, r0]
    simp only [Flow.then]
    have gB : ∀ b : Bool, gcB H2 (.ok b H2) = .ok b H2 := fun b => gcB_self
    have one : ∀ d : D, Good [p] H2 B 9 1200 d → New h.length d → ∃ d' H, Flow.rt d H2 = .rt d' H ∧ St p (k + 3) h H ∧ New h.length d' ∧ Good [p] H B 9 1200 d' := fun d g nd => ⟨d, H2, rfl, s2.mono (by omega), nd, g⟩
    have lc : ∀ lo hi, (cut (txts ns) lo hi).length ≤ 20 := fun lo hi => by have := (cs lo hi).length_le; omega
    have lim : ∀ lo hi lo2 hi2, (cut (txts ns) lo hi).length + (cut (txts ns) lo2 hi2).length ≤ 16777216 := fun a b c d => by have := lc a b; have := lc c d; omega
    have two : ∀ xs zs : List D, xs.Sublist (txts ns) → zs.Sublist (txts ns) → Good [p] H2 B 9 1200 (.tup (xs ++ zs)) := fun xs zs a b => by
      have := good_cat (S := [p]) (H := H2) (B := B) (ys := []) pl a b Goods.nil few
      rw [List.append_nil] at this
      exact this.mono (Nat.le_refl _) (Nat.le_refl _) (by omega)
    have tri : ∀ xs ys zs : List D, xs.Sublist (txts ns) → ys.Sublist (txts ns) → zs.Sublist (txts ns) → Good [p] H2 B 9 1200 (.tup (xs ++ ys ++ zs)) := fun xs ys zs a b c =>
      (good_cat (S := [p]) (H := H2) (B := B) pl a c (all.sub b) few).mono (Nat.le_refl _) (Nat.le_refl _) (by omega)
    have sing : ∀ xs : List D, xs.Sublist (txts ns) → Good [p] H2 B 9 1200 (.tup xs) := fun xs a => by
      have := two xs [] a (List.nil_sublist _)
      rwa [List.append_nil] at this
    have isE : eqD H2 (.tup (txts ns)) (.tup []) = some ns.isEmpty := eq_empty ns
    have tn0 : (0 : Int) ≤ t := t0
    have ways : w = 0 ∨ w = 1 ∨ w = 2 ∨ w = 3 ∨ w = 4 ∨ w = 5 ∨ w = 6 ∨ w = 7 ∨ w = 8 := by omega
    have lim1 : ∀ lo hi, (cut (txts ns) lo hi).length + 1 ≤ 16777216 := fun a b => by have := lc a b; omega
    have lim2 : ∀ lo hi, (cut (txts ns) lo hi).length + 1 + 1 ≤ 16777216 := fun a b => by have := lc a b; omega
    have lim3 : ∀ lo hi lo2 hi2, (cut (txts ns) lo hi).length + 1 + (cut (txts ns) lo2 hi2).length ≤ 16777216 := fun a b c d => by have := lc a b; have := lc c d; omega
    have lim4 : ∀ lo hi lo2 hi2, (cut (txts ns) lo hi).length + 2 + (cut (txts ns) lo2 hi2).length ≤ 16777216 := fun a b c d => by have := lc a b; have := lc c d; omega
    have lim5 : ∀ lo hi lo2 hi2 lo3 hi3, (cut (txts ns) lo hi).length + (cut (txts ns) lo2 hi2).length + (cut (txts ns) lo3 hi3).length ≤ 16777216 := fun a b c d e f => by have := lc a b; have := lc c d; have := lc e f; omega
    have lim6 : ∀ lo hi, (cut (txts ns) lo hi).length + 2 ≤ 16777216 := fun a b => by have := lc a b; omega
    obtain ⟨od, H3, eo, t3, u3, n3, g3⟩ := s2.odd (P := P) (n := m + 3) (B := B) (by omega) hB
    have nO : New h.length od := fun r q => by have := n3 r q; have := s2.le; omega
    have fO : St p (k + 3) h H3 := t3.mono (by omega)
    have gO : Good [p] H3 B 9 1200 od := g3.mono (Nat.le_refl _) (by omega) (by omega)
    have catO : ∀ xs zs : List D, xs.Sublist (txts ns) → zs.Sublist (txts ns) → Good [p] H3 B 9 1200 (.tup (xs ++ od :: zs)) := fun xs zs a b => by
      have := good_cat (S := [p]) (H := H3) (B := B) (W := 601) (ys := [od]) pl a b ((Goods.cons g3 Goods.nil).mono (Nat.le_refl _) (Nat.le_refl _) (by omega)) few
      rw [List.append_assoc] at this
      exact this.mono (Nat.le_refl _) (Nat.le_refl _) (by omega)
    rcases ways with rfl | rfl | rfl | rfl | rfl | rfl | rfl | rfl | rfl
    · by_cases he : ns = []
      · subst he
        have eo' : callF P (m + 3) 5 [.ref p] H2 = .ok od H3 := eo
        refine ⟨od, H3, ?_, fO, nO, gO⟩
        simp at isE
        simp [s_cons, s_if, t_and, t_b, e_1, e_2, e_var, e_c, eq_int, liftO_some, asB, gB, s_nil, Flow.then, s_ret, e_if, e_slice, so_none, so_some, asI, o_slice, o_add, o_lt, o_ne, okB, e_tup, e_call, a_cons, a_nil, LIM, isE, b_len, lenD, ln, lim, lim1, lim2, lim3, lim4, lim5, eo']
      · have he2 : ns.isEmpty = false := by cases ns <;> simp_all
        rw [he2] at isE
        by_cases ht : t < ns.length
        · refine ⟨_, H2, ?_, s2.mono (by omega), new_tup, two (cut (txts ns) none (some t)) (cut (txts ns) (some (t + 1)) none) (cs _ _) (cs _ _)⟩
          simp [s_cons, s_if, t_and, t_b, e_1, e_2, e_var, e_c, eq_int, liftO_some, asB, gB, s_nil, Flow.then, s_ret, e_if, e_slice, so_none, so_some, asI, o_slice, o_add, o_lt, o_ne, okB, e_tup, e_call, a_cons, a_nil, LIM, isE, b_len, lenD, ln, lim, lim1, lim2, lim3, lim4, lim5, ht]
        · refine ⟨_, H2, ?_, s2.mono (by omega), new_tup, sing (cut (txts ns) none (some (-1))) (cs _ _)⟩
          simp [s_cons, s_if, t_and, t_b, e_1, e_2, e_var, e_c, eq_int, liftO_some, asB, gB, s_nil, Flow.then, s_ret, e_if, e_slice, so_none, so_some, asI, o_slice, o_add, o_lt, o_ne, okB, e_tup, e_call, a_cons, a_nil, LIM, isE, b_len, lenD, ln, lim, lim1, lim2, lim3, lim4, lim5, ht, o_neg]
    · refine ⟨_, H2, ?_, s2.mono (by omega), new_tup, tri (cut (txts ns) none (some t)) (cut (txts ns) (some t) (some (t + 1))) (cut (txts ns) (some t) none) (cs _ _) (cs _ _) (cs _ _)⟩
      simp [s_cons, s_if, t_and, t_b, e_1, e_2, e_var, e_c, eq_int, liftO_some, asB, gB, s_nil, Flow.then, s_ret, e_if, e_slice, so_none, so_some, asI, o_slice, o_add, o_lt, o_ne, okB, e_tup, e_call, a_cons, a_nil, LIM, isE, b_len, lenD, ln, lim, lim1, lim2, lim3, lim4, lim5]
    · refine ⟨_, H2, ?_, s2.mono (by omega), new_tup, (Good.tup all.rev).mono (Nat.le_refl _) (Nat.le_refl _) (by omega)⟩
      simp [s_cons, s_if, t_and, t_b, e_1, e_2, e_var, e_c, eq_int, liftO_some, asB, gB, s_nil, Flow.then, s_ret, e_if, e_slice, so_none, so_some, asI, o_slice, o_add, o_lt, o_ne, okB, e_tup, e_call, a_cons, a_nil, LIM, isE, b_len, lenD, ln, lim, lim1, lim2, lim3, lim4, lim5, o_rev]
    · refine ⟨.ref H2.length, H2 ++ [.lst (txts ns)], ?_, (s2.app _).mono (by omega), fun r e => by cases e; exact s2.le, Good.lst (n := 8) (fun q => ?_) get_new (all.ext Ext.app |>.mono (Nat.le_refl _) (Nat.le_refl _) (by omega))⟩
      · simp [s_cons, s_if, t_and, t_b, e_1, e_2, e_var, e_c, eq_int, liftO_some, asB, gB, s_nil, Flow.then, s_ret, e_if, e_slice, so_none, so_some, asI, o_slice, o_add, o_lt, o_ne, okB, e_tup, e_call, a_cons, a_nil, LIM, isE, b_len, lenD, ln, lim, lim1, lim2, lim3, lim4, lim5, b_list, items, newO]
      · obtain ⟨l, a, _⟩ := s2.pot
        have := get_lt a
        rw [List.mem_singleton] at q
        omega
    · refine ⟨_, H3, ?_, fO, new_tup, catO (cut (txts ns) none (some t)) (cut (txts ns) (some t) none) (cs _ _) (cs _ _)⟩
      simp [s_cons, s_if, t_and, t_b, e_1, e_2, e_var, e_c, eq_int, liftO_some, asB, gB, s_nil, Flow.then, s_ret, e_if, e_slice, so_none, so_some, asI, o_slice, o_add, o_lt, o_ne, okB, e_tup, e_call, a_cons, a_nil, LIM, isE, b_len, lenD, ln, lim, lim1, lim2, lim3, lim4, lim5, eo]
    · by_cases ht : t + 1 < ns.length
      · obtain ⟨x, x1, x2⟩ := at_nat (xs := txts ns) (i := t + 1) (by omega) (by rw [ln]; exact ht)
        obtain ⟨y, y1, y2⟩ := at_nat (xs := txts ns) (i := t) (by omega) (by rw [ln]; omega)
        have q := good_cat (S := [p]) (H := H2) (B := B) (W := 362) (ys := [x, y]) pl (cs none (some t)) (cs (some (t + 2)) none) ((Goods.cons (all.mem (List.mem_of_getElem? x2)) (Goods.cons (all.mem (List.mem_of_getElem? y2)) Goods.nil)).mono (Nat.le_refl _) (Nat.le_refl _) (by omega)) few
        refine ⟨_, H2, ?_, s2.mono (by omega), new_tup, q.mono (Nat.le_refl _) (Nat.le_refl _) (by omega)⟩
        simp [s_cons, s_if, t_and, t_b, e_1, e_2, e_var, e_c, eq_int, liftO_some, asB, gB, s_nil, Flow.then, s_ret, e_if, e_slice, so_none, so_some, asI, o_slice, o_add, o_lt, o_ne, okB, e_tup, e_call, a_cons, a_nil, LIM, isE, b_len, lenD, ln, lim, lim1, lim2, lim3, lim4, lim5, ht, o_item, items, x1, y1, lim6]
      · refine ⟨od, H3, ?_, fO, nO, gO⟩
        simp [s_cons, s_if, t_and, t_b, e_1, e_2, e_var, e_c, eq_int, liftO_some, asB, gB, s_nil, Flow.then, s_ret, e_if, e_slice, so_none, so_some, asI, o_slice, o_add, o_lt, o_ne, okB, e_tup, e_call, a_cons, a_nil, LIM, isE, b_len, lenD, ln, lim, lim1, lim2, lim3, lim4, lim5, ht, eo]
    · by_cases he : ns = []
      · subst he
        refine ⟨od, H3, ?_, fO, nO, gO⟩
        simp at isE
        simp [s_cons, s_if, t_and, t_b, e_1, e_2, e_var, e_c, eq_int, liftO_some, asB, gB, s_nil, Flow.then, s_ret, e_if, e_slice, so_none, so_some, asI, o_slice, o_add, o_lt, o_ne, okB, e_tup, e_call, a_cons, a_nil, LIM, isE, b_len, lenD, ln, lim, lim1, lim2, lim3, lim4, lim5, eo]
      · have he2 : ns.isEmpty = false := by cases ns <;> simp_all
        rw [he2] at isE
        have hl : 0 < (txts ns).length := by rw [ln]; cases ns <;> simp_all
        obtain ⟨l, aa, bb⟩ := s2.pot
        obtain ⟨x, l', ex, hl', hm⟩ := of_tup (P := P) (n := m + 3) (by omega) aa bb (by omega) hl (by omega)
        have s4 : St p (k + 3) h (H2.set p (.lst l')) := ⟨⟨l', get_set aa, hl'⟩, s2.ext.trans (Ext.set (by simp))⟩
        have q := good_cat (S := [p]) (H := H2.set p (.lst l')) (B := B) (W := 181) (ys := [x]) pl (cs none (some t)) (cs (some t) none) ((Goods.cons ((all.mem hm).ext (Ext.set (by simp))) Goods.nil).mono (Nat.le_refl _) (Nat.le_refl _) (by omega)) few
        refine ⟨_, H2.set p (.lst l'), ?_, s4, new_tup, q.mono (Nat.le_refl _) (Nat.le_refl _) (by omega)⟩
        simp [s_cons, s_if, t_and, t_b, e_1, e_2, e_var, e_c, eq_int, liftO_some, asB, gB, s_nil, Flow.then, s_ret, e_if, e_slice, so_none, so_some, asI, o_slice, o_add, o_lt, o_ne, okB, e_tup, e_call, a_cons, a_nil, LIM, isE, b_len, lenD, ln, lim, lim1, lim2, lim3, lim4, lim5, ex]
    · refine ⟨_, H2, ?_, s2.mono (by omega), new_tup, sing (cut (txts ns) (some 1) none) (cs _ _)⟩
      simp [s_cons, s_if, t_and, t_b, e_1, e_2, e_var, e_c, eq_int, liftO_some, asB, gB, s_nil, Flow.then, s_ret, e_if, e_slice, so_none, so_some, asI, o_slice, o_add, o_lt, o_ne, okB, e_tup, e_call, a_cons, a_nil, LIM, isE, b_len, lenD, ln, lim, lim1, lim2, lim3, lim4, lim5]
    · refine ⟨od, H3, ?_, fO, nO, gO⟩
      simp [s_cons, s_if, t_and, t_b, e_1, e_2, e_var, e_c, eq_int, liftO_some, asB, gB, s_nil, Flow.then, s_ret, e_if, e_slice, so_none, so_some, asI, o_slice, o_add, o_lt, o_ne, okB, e_tup, e_call, a_cons, a_nil, LIM, isE, b_len, lenD, ln, lim, lim1, lim2, lim3, lim4, lim5, eo]
  obtain ⟨d, H, e, a, b, c⟩ := core
  obtain ⟨d', H', o1, o2, o3, o4⟩ := gc_out1 s0 a b c
  refine ⟨d', H', ?_, o2, o3, o4⟩
  rw [run_rt rfl (v := d) (h' := H) e]
  exact o1
end
end Lw
end

section
set_option linter.all false
set_option autoImplicit false
set_option maxRecDepth 100000
set_option maxHeartbeats 1000000
/-! a tuple of names with any one thing otherwise -/
namespace Lw
open IR
/-- it can be written out, alike wherever it is still there -/
theorem Good.repr {S : List Nat} {h : Heap} {B n W : Nat} {d : D} (a : Good S h B n W d) (hn : n ≤ 60) (hB : B ≤ 10 ^ 500) (hW : W ≤ 8000) : ∃ q, ∀ (κ : Kap) (H : Heap), Ext S h H → b_repr κ [d] H = .ok (.str (κ.shown q)) H := by
  obtain ⟨q, e1, e2, e3⟩ := a
  refine ⟨q, fun κ H ext => ?_⟩
  have g : Good S H B n W d := ⟨q, rdS_mono ext.vw e1 n (Nat.le_refl _), e2, e3⟩
  have rd : rdX H DEEP d = some q := by
    rw [rdX_S]
    refine rdS_mono (fun k o e => ?_) e1 60 hn
    have e' := ext.vw k o e
    unfold vw at e'
    split at e'
    · cases e'
    · exact e'
  have f : q.fits = true := by
    unfold PX.fits
    rw [fine_upto hB q e2, decide_eq_true (Nat.le_trans e3 hW)]
    simp
  simp only [b_repr, rd, liftO_some, Res.bind_ok, f, if_true]
section
variable {P : Prog} [Has P] [HasO P] {n p k B : Nat} {h : Heap} {ns : List Txt}
theorem in_txt {sub : Nat → Nat → Bool} [HasC P sub] {W : Nat} {s : Txt} {i : Int} (hn : 17 ≤ n) (s0 : St p k h h) (hs : (s.all fun c => decide (c < 128)) = true) (hW : s.length ≤ W) (hW2 : W ≤ 100000) (hB : 100000000000000000000 < B) (hk : k < 999000 := by omega) :
    ∃ d H, callF P n 7 [.ref p, .str s, .int i] h = .ok d H ∧ St p (k + 2) h H ∧ New h.length d ∧ Good [p] H B 8 (W + 600) d := by
  obtain ⟨m, rfl⟩ : ∃ m, n = m + 4 := ⟨n - 4, by omega⟩
  rw [callF_succ _ _ _ _ _ (d_law_changed_in sub) HasC.changed_in]
  obtain ⟨d, H, e, a, b, c⟩ := leaf_txt (P := P) (sub := sub) (n := m + 3) (by omega) s0 hs hW hW2 hB
  obtain ⟨d', H', o1, o2, o3, o4⟩ := gc_out1 s0 a b c
  refine ⟨d', H', ?_, o2, o3, o4⟩
  rw [run_rt rfl (v := d) (h' := H) ?_]
  · exact o1
  · show b_law_changed_in sub (kap P m) _ _ = _
    unfold b_law_changed_in
    simp [s_cons, s_if, t_not, t_e, e_1, e_var, o_isa, isTy, Ty.str, liftO_some, okB, truth, gcB_self, s_ret, e_call, a_cons, a_nil, e, Flow.then, d_law_changed_in]
theorem in_row {sub : Nat → Nat → Bool} [HasC P sub] (hn : 21 ≤ n) (s0 : St p k h h) (pl : Plain ns) (few : ns.length ≤ 20) (hB : 100000000000000000000 < B) (hk : k < 998000 := by omega) :
    ∃ d H, callF P n 7 [.ref p, .tup (txts ns), .int 0] h = .ok d H ∧ St p (k + 4) h H ∧ New h.length d ∧ Good [p] H B 9 1200 d := by
  obtain ⟨m, rfl⟩ : ∃ m, n = m + 4 := ⟨n - 4, by omega⟩
  rw [callF_succ _ _ _ _ _ (d_law_changed_in sub) HasC.changed_in]
  have ln : (txts ns).length = ns.length := by simp
  have core : ∃ d H, b_law_changed_in sub (kap P m) [some (.ref p), some (.tup (txts ns)), some (.int 0), none] h = .rt d H ∧ St p (k + 4) h H ∧ New h.length d ∧ Good [p] H B 9 1200 d := by
    unfold b_law_changed_in
    have isE : eqD h (.tup (txts ns)) (.tup []) = some ns.isEmpty := eq_empty ns
    have gB : ∀ b : Bool, gcB h (.ok b h) = .ok b h := fun b => gcB_self
    have r1 : ∀ f : SS, s_if (t_not (t_e (e_1 (o_isa sub .tTuple) (e_var 1)))) f (s_nil) [some (.ref p), some (.tup (txts ns)), some (.int 0), none] h = .nx [some (.ref p), some (.tup (txts ns)), some (.int 0), none] h := by
      intro f
      simp [s_if, t_not, t_e, e_1, e_var, o_isa, isTy, Ty.tup, liftO_some, okB, truth, gB, s_nil]
    rw [s_cons, r1]
    simp only [Flow.then]
    by_cases he : ns = []
    · obtain ⟨d, H, e, a, b, c⟩ := row_spec (P := P) (sub := sub) (n := m + 3) (by omega) s0 pl few hB
      refine ⟨d, H, ?_, a.mono (by omega), b, c⟩
      subst he
      have isE' : eqD h (.tup []) (.tup []) = some true := isE
      have e' : callF P (m + 3) 8 [.ref p, .tup []] h = .ok d H := e
      simp [s_cons, s_if, t_or, t_b, e_2, e_var, e_c, e_tup, a_nil, o_eq, isE', liftO_some, okB, asB, gB, s_ret, e_call, a_cons, e', Flow.then, LIM]
    · have he2 : ns.isEmpty = false := by cases ns <;> simp_all
      rw [he2] at isE
      have eqE : o_eq (.tup (txts ns)) (.tup []) h = .ok (.bl false) h := by simp [o_eq, isE, liftO_some, okB]
      obtain ⟨w, H1, e1, s1, w0, w1, -, b1⟩ := s0.take (P := P) (n := m + 3) (u := 4) (by omega)
      by_cases hw : w = 0
      · subst hw
        have s1' : St p (k + 1) H1 H1 := ⟨s1.pot, Ext.refl⟩
        obtain ⟨d, H, e, a, b, c⟩ := row_spec (P := P) (sub := sub) (n := m + 3) (by omega) s1' pl few hB
        refine ⟨d, H, ?_, ⟨a.pot, s1.ext.trans a.ext⟩, fun r q => by have := b r q; have := s1.le; omega, c⟩
        simp [s_cons, s_if, t_or, t_b, e_2, e_var, e_c, e_tup, a_nil, o_gt, eqE, eq_int, liftO_some, okB, asB, gB, s_ret, e_call, a_cons, e1, b1, e, Flow.then, LIM]
      · have hl : 0 < ns.length := by cases ns <;> simp_all
        obtain ⟨t, H2, e2, s2, t0, t1, g2, -⟩ := s1.take (P := P) (n := m + 3) (u := (ns.length : Int)) (by omega)
        obtain ⟨x, x1, x2⟩ := at_nat (xs := txts ns) (i := t) t0 (by rw [ln]; exact t1)
        obtain ⟨s, hs, rfl⟩ := List.mem_map.mp (List.mem_of_getElem? x2)
        have s2' : St p (k + 2) H2 H2 := ⟨s2.pot, Ext.refl⟩
        obtain ⟨d, H3, e3, s3, n3, g3⟩ := in_txt (P := P) (sub := sub) (n := m + 3) (i := 1) (W := 8) (by omega) s2' (pl s hs).1 (pl s hs).2 (by omega) hB
        have cs : ∀ lo hi, (cut (txts ns) lo hi).Sublist (txts ns) := cut_sub _
        have lc : ∀ lo hi, (cut (txts ns) lo hi).length ≤ 20 := fun lo hi => by have := (cs lo hi).length_le; omega
        have lim1 : ∀ lo hi, (cut (txts ns) lo hi).length + 1 ≤ 16777216 := fun a b => by have := lc a b; omega
        have lim3 : ∀ lo hi lo2 hi2, (cut (txts ns) lo hi).length + 1 + (cut (txts ns) lo2 hi2).length ≤ 16777216 := fun a b c d => by have := lc a b; have := lc c d; omega
        have q := good_cat (S := [p]) (H := H3) (B := B) (W := 609) (ys := [d]) pl (cs none (some t)) (cs (some (t + 1)) none) ((Goods.cons g3 Goods.nil).mono (Nat.le_refl _) (Nat.le_refl _) (by omega)) few
        refine ⟨_, H3, ?_, ⟨(s3.mono (j := k + 4) (by omega)).pot, s2.ext.trans s3.ext⟩, new_tup, q.mono (Nat.le_refl _) (Nat.le_refl _) (by omega)⟩
        simp [s_cons, s_if, t_or, t_b, e_2, e_var, e_c, e_tup, a_nil, o_gt, eqE, eq_int, liftO_some, okB, asB, gB, s_nil, s_ret, e_call, a_cons, e1, b1, hw, Flow.then, LIM, s_asg, b_len, lenD, ln, e2, g2, g_name, e_slice, so_none, so_some, asI, o_slice, o_add, o_item, items, x1, e3, lim1, lim3]
  obtain ⟨d, H, e, a, b, c⟩ := core
  obtain ⟨d', H', o1, o2, o3, o4⟩ := gc_out1 s0 a b c
  refine ⟨d', H', ?_, o2, o3, o4⟩
  rw [run_rt rfl (v := d) (h' := H) e]
  exact o1
theorem ne_txt {h : Heap} (a b : Txt) : o_ne (.str a) (.str b) h = .ok (.bl (!decide (a = b))) h := by
  by_cases e : a = b
  · subst e; simp [o_ne, eqD, rd, PD.eqv, liftO_some, okB]
  · simp [o_ne, eqD, rd, PD.eqv, liftO_some, okB, e]
theorem eq_txt {h : Heap} (a b : Txt) : o_eq (.str a) (.str b) h = .ok (.bl (decide (a = b))) h := by
  by_cases e : a = b
  · subst e; simp [o_eq, eqD, rd, PD.eqv, liftO_some, okB]
  · simp [o_eq, eqD, rd, PD.eqv, liftO_some, okB, e]
theorem changed_spec {sub : Nat → Nat → Bool} [HasC P sub] (hn : 25 ≤ n) (s0 : St p k h h) (pl : Plain ns) (few : ns.length ≤ 20) (hB : 100000000000000000000 < B) (hB2 : B ≤ 10 ^ 500) (hk : k < 998000 := by omega) :
    ∃ d H, callF P n 6 [.ref p, .tup (txts ns)] h = .ok d H ∧ St p (k + 4) h H ∧ New h.length d ∧ Good [p] H B 10 1200 d := by
  obtain ⟨m, rfl⟩ : ∃ m, n = m + 4 := ⟨n - 4, by omega⟩
  rw [callF_succ _ _ _ _ _ d_law_changed HasC.changed]
  obtain ⟨d0, H0, e0, a0, b0, c0⟩ := in_row (P := P) (sub := sub) (n := m + 3) (by omega) s0 pl few hB
  obtain ⟨d1, H1, o1, s1, n1, g1⟩ := gc_out1 s0 a0 b0 c0
  have val : Good [p] H1 B 9 180 (.tup (txts ns)) := (Good.tup (goods_txts (n := 7) pl)).mono (Nat.le_refl _) (Nat.le_refl _) (by omega)
  obtain ⟨q1, r1⟩ := g1.repr (by omega) hB2 (by omega)
  obtain ⟨q2, r2⟩ := val.repr (by omega) hB2 (by omega)
  have e1 := r1 (kap P m) H1 Ext.refl
  have e2 := r2 (kap P m) H1 Ext.refl
  have core : ∃ d, b_law_changed (kap P m) [some (.ref p), some (.tup (txts ns)), none] h = .rt d H1 ∧ New h.length d ∧ Good [p] H1 B 10 1200 d := by
    unfold b_law_changed
    have r0 : s_asg (e_call ((kap P m).fn 7) (a_cons (e_var 0) (a_cons (e_var 1) (a_cons (e_c (.int 0)) (a_nil))))) (g_name 2) [some (.ref p), some (.tup (txts ns)), none] h = .nx [some (.ref p), some (.tup (txts ns)), some d1] H1 := by
      simp [s_asg, e_call, a_cons, a_nil, e_var, e_c, e0, o1, g_name]
    rw [s_cons, r0]
    by_cases hq : (kap P m).shown q1 = (kap P m).shown q2
    · have hq' : P.shown q1 = P.shown q2 := hq
      refine ⟨_, ?_, new_tup, (Good.tup (.cons val .nil)).mono (Nat.le_refl _) (Nat.le_refl _) (by omega)⟩
      simp [Flow.then, s_ret, e_if, t_b, e_2, e_call, a_cons, a_nil, e_var, e1, e2, ne_txt, hq', asB, liftO_some, e_tup, LIM]
    · refine ⟨d1, ?_, n1, g1.mono (Nat.le_refl _) (by omega) (Nat.le_refl _)⟩
      simp only [Flow.then, s_ret, e_if, t_b, e_2, e_call, a_cons, a_nil, e_var, List.getElem?_cons_zero, List.getElem?_cons_succ, Res.bind_ok, e1, e2, ne_txt, decide_eq_false hq, asB, liftO_some, Bool.not_false, if_true, Res.to_ok]
  obtain ⟨d, e, b, c⟩ := core
  obtain ⟨d', H', p1, p2, p3, p4⟩ := gc_out1 s0 s1 b c
  refine ⟨d', H', ?_, p2, p3, p4⟩
  rw [run_rt rfl (v := d) (h' := H1) e]
  exact p1
end
end Lw
end

section
set_option linter.all false
namespace K02
open IR
/-! the defs of the law and of what it reaches, in the small semantics (printed by gen.py) -/
def sub : Nat → Nat → Bool := fun c d => (min c 2 == 0 && d == 1000) || (min c 2 == 0 && d == 1002) || (min c 2 == 1 && d == 1001) || (min c 2 == 1 && d == 1002) || (min c 2 == 2 && d == 1002) || min c 0 == d
/-- law_take(_law_pot_here, _law_upto) : 0 _law_pot_here, 1 _law_upto, 2 _law_prime, 3 _law_mixed, 4 _law_digit -/
def b_law_take (κ : Kap) : SS := s_cons (s_if (t_b (e_2 o_gt (e_2 o_item (e_var 0) (e_c (.int 0))) (e_c (.int 0)))) (s_cons (s_asg (e_2 o_mod (e_call b_int (a_cons (e_2 o_item (e_var 0) (e_c (.int 0))) (a_nil))) (e_var 1)) (g_name 4)) (
  s_cons (s_put p_list (e_var 0) (e_c (.int 0)) (e_2 o_fdiv (e_2 o_item (e_var 0) (e_c (.int 0))) (e_var 1))) (
  s_ret (e_var 4)))) (s_nil)) (
  s_cons (s_put p_list (e_var 0) (e_c (.int 2)) (e_2 o_add (e_2 o_item (e_var 0) (e_c (.int 2))) (e_c (.int 1)))) (
  s_cons (s_asg (e_2 o_item (e_lst (a_cons (e_c (.int 2147483647)) (a_cons (e_c (.int 2147483629)) (a_cons (e_c (.int 2147483587)) (a_cons (e_c (.int 2147483579)) (a_cons (e_c (.int 2147483563)) (a_nil))))))) (e_2 o_mod (e_call b_int (a_cons (e_2 o_item (e_var 0) (e_c (.int 2))) (a_nil))) (e_c (.int 5)))) (g_name 2)) (
  s_cons (s_asg (e_2 o_mod (e_call b_int (a_cons (e_2 o_pow (e_call b_int (a_cons (e_2 o_add (e_2 o_add (e_2 o_item (e_var 0) (e_c (.int 1))) (e_2 o_mul (e_2 o_mul (e_c (.int 104729)) (e_2 o_item (e_var 0) (e_c (.int 2)))) (e_2 o_item (e_var 0) (e_c (.int 2))))) (e_c (.int 29))) (a_nil))) (e_c (.int 3))) (a_nil))) (e_var 2)) (g_name 3)) (
  s_cons (s_asg (e_2 o_mod (e_call b_int (a_cons (e_2 o_mul (e_var 3) (e_2 o_add (e_2 o_mod (e_call b_int (a_cons (e_var 3) (a_nil))) (e_c (.int 10007))) (e_2 o_mul (e_c (.int 97)) (e_2 o_item (e_var 0) (e_c (.int 2)))))) (a_nil))) (e_c (.int 2305843009213693907))) (g_name 3)) (
  s_ret (e_2 o_mod (e_call b_int (a_cons (e_2 o_fdiv (e_var 3) (e_c (.int 113))) (a_nil))) (e_var 1)))))))
def d_law_take : Def := ⟨2, 5, b_law_take⟩
/-- law_of(_law_pot_here, _law_some) : 0 _law_pot_here, 1 _law_some -/
def b_law_of (κ : Kap) : SS := s_ret (e_2 o_item (e_var 1) (e_call (κ.fn 0) (a_cons (e_var 0) (a_cons (e_call b_len (a_cons (e_var 1) (a_nil))) (a_nil)))))
def d_law_of : Def := ⟨2, 2, b_law_of⟩
/-- law_pot(_law_script, _law_k) : 0 _law_script, 1 _law_k, 2 _law_cell, 3 _law_own, 4 _law_small -/
def b_law_pot (κ : Kap) : SS := s_cons (s_asg (e_if (t_b (e_2 o_lt (e_var 1) (e_call b_len (a_cons (e_var 0) (a_nil))))) (e_2 o_item (e_var 0) (e_var 1)) (e_2 o_add (e_2 o_mul (e_c (.int 37)) (e_var 1)) (e_c (.int 11)))) (g_name 2)) (
  s_cons (s_asg (e_2 o_mul (e_2 o_mod (e_call b_int (a_cons (e_call b_abs (a_cons (e_var 2) (a_nil))) (a_nil))) (e_2 o_pow (e_2 o_pow (e_c (.int 10)) (e_c (.int 60))) (e_c (.int 5)))) (e_call b_int (a_cons (e_2 o_ge (e_call b_abs (a_cons (e_var 2) (a_nil))) (e_2 o_pow (e_c (.int 10)) (e_c (.int 18)))) (a_nil)))) (g_name 3)) (
  s_cons (s_asg (e_2 o_mod (e_call b_int (a_cons (e_var 2) (a_nil))) (e_c (.int 2305843009213693951))) (g_name 4)) (
  s_ret (e_lst (a_cons (e_var 3) (a_cons (e_2 o_mod (e_call b_int (a_cons (e_2 o_add (e_2 o_add (e_2 o_mul (e_var 4) (e_c (.int 70657))) (e_2 o_mul (e_2 o_mul (e_c (.int 7927)) (e_var 1)) (e_var 1))) (e_c (.int 97))) (a_nil))) (e_c (.int 2305843009213693921))) (a_cons (e_c (.int 0)) (a_nil))))))))
def d_law_pot : Def := ⟨2, 5, b_law_pot⟩
/-- law_ordered(_law_rows) : 0 _law_rows, 1 _law_found, 2 _law_row, 3 _law_at -/
def b_law_ordered (κ : Kap) : SS := s_cons (s_asg (e_lst (a_nil)) (g_name 1)) (
  s_cons (s_for (i_list (e_var 0)) (g_name 2) (s_if (t_b (e_2 o_notin (e_var 2) (e_var 1))) (s_cons (s_asg (e_c (.int 0)) (g_name 3)) (
  s_cons (s_while (t_and (t_b (e_2 o_lt (e_var 3) (e_call b_len (a_cons (e_var 1) (a_nil))))) (t_b (e_2 o_lt (e_2 o_item (e_var 1) (e_var 3)) (e_var 2)))) (s_asg (e_2 o_add (e_var 3) (e_c (.int 1))) (g_name 3))) (
  s_expr (e_lm3 m_insert (e_var 1) (e_var 3) (e_var 2))))) (s_nil))) (
  s_ret (e_var 1)))
def d_law_ordered : Def := ⟨1, 4, b_law_ordered⟩
/-- law_word(_law_pot_here) : 0 _law_pot_here, 1 _law_word_here, 2 _law_lap -/
def b_law_word (κ : Kap) : SS := s_cons (s_asg (e_c (.str [])) (g_name 1)) (
  s_cons (s_for (i_rng1 (e_2 o_add (e_c (.int 1)) (e_call (κ.fn 0) (a_cons (e_var 0) (a_cons (e_c (.int 8)) (a_nil)))))) (g_name 2) (s_asg (e_2 o_add (e_var 1) (e_2 o_item (e_c (.str [97, 98, 99, 100, 101, 102, 103, 104, 105, 106, 107, 108, 109, 110, 111, 112, 113, 114, 115, 116, 117, 118, 119, 120, 121, 122])) (e_call (κ.fn 0) (a_cons (e_var 0) (a_cons (e_c (.int 26)) (a_nil)))))) (g_name 1))) (
  s_ret (e_2 o_add (e_var 1) (e_2 o_mul (e_c (.str [120])) (e_call b_int (a_cons (e_2 o_in (e_var 1) (e_tup (a_cons (e_c (.str [110, 101, 120, 116])) (a_cons (e_c (.str [109, 111, 114, 101])) (a_cons (e_c (.str [110, 111, 116])) (a_cons (e_c (.str [115, 97, 109, 101])) (a_cons (e_c (.str [108, 101, 115, 115])) (a_cons (e_c (.str [97, 110, 100])) (a_cons (e_c (.str [111, 114])) (a_nil)))))))))) (a_nil)))))))
def d_law_word : Def := ⟨1, 3, b_law_word⟩
/-- law_odd(_law_pot_here) : 0 _law_pot_here, 1 _law_some -/
def b_law_odd (κ : Kap) : SS := s_cons (s_asg (e_lst (a_cons (e_c .non) (a_cons (e_c (.bl true)) (a_cons (e_c (.bl false)) (a_cons (e_c (.int 0)) (a_cons (e_c (.int 1)) (a_cons (e_1 o_neg (e_c (.int 1))) (a_cons (e_c (.int 2)) (a_cons (e_c (.int 3)) (a_cons (e_c (.int 9)) (a_cons (e_c (.int 10)) (a_cons (e_1 o_neg (e_2 o_pow (e_c (.int 10)) (e_c (.int 20)))) (a_cons (e_2 o_pow (e_c (.int 10)) (e_c (.int 20))) (a_cons (e_c (.str [])) (a_cons (e_c (.str [97])) (a_cons (e_c (.str [120])) (a_cons (e_c (.str [108, 111, 103])) (a_nil)))))))))))))))))) (g_name 1)) (
  s_cons (s_expr (e_lm m_extend (e_var 1) (e_lst (a_cons (e_c (.str [76, 111, 103])) (a_cons (e_c (.str [97, 32, 98])) (a_cons (e_c (.str [115, 97, 109, 101])) (a_cons (e_c (.str [115, 116, 97, 110, 100, 115])) (a_cons (e_c (.str [112, 97, 114, 116, 115])) (a_cons (e_c (.str [97, 98, 99, 100, 101, 102, 103, 104])) (a_cons (e_c (.str [97, 98, 99, 100, 101, 102, 103, 104, 105])) (a_cons (e_c (.str [110, 101, 120, 116])) (a_cons (e_tup (a_nil)) (a_cons (e_lst (a_nil)) (a_cons (e_dic0) (a_nil))))))))))))))) (
  s_cons (s_expr (e_lm m_extend (e_var 1) (e_lst (a_cons (e_tup (a_cons (e_c (.str [108, 111, 103])) (a_nil))) (a_cons (e_lst (a_cons (e_c (.str [108, 111, 103])) (a_nil))) (a_cons (e_tup (a_cons (e_c (.str [98])) (a_cons (e_c (.str [97])) (a_nil)))) (a_cons (e_tup (a_cons (e_c (.str [97])) (a_cons (e_c (.str [97])) (a_nil)))) (a_cons (e_tup (a_cons (e_c (.str [97])) (a_cons (e_c (.str [98])) (a_nil)))) (a_cons (e_disp [(e_c (.str [97]), e_c (.int 1))]) (a_cons (e_tup (a_cons (e_tup (a_nil)) (a_cons (e_tup (a_nil)) (a_nil)))) (a_cons (e_tup (a_cons (e_tup (a_nil)) (a_cons (e_tup (a_nil)) (a_cons (e_tup (a_nil)) (a_nil))))) (a_nil)))))))))))) (
  s_cons (s_expr (e_lm m_extend (e_var 1) (e_lst (a_cons (e_tup (a_cons (e_c (.str [115, 97, 109, 101])) (a_cons (e_tup (a_nil)) (a_nil)))) (a_cons (e_tup (a_cons (e_c (.str [112, 97, 114, 116, 115])) (a_cons (e_tup (a_nil)) (a_nil)))) (a_cons (e_tup (a_cons (e_c (.str [115, 116, 97, 110, 100, 115])) (a_cons (e_tup (a_cons (e_tup (a_nil)) (a_cons (e_tup (a_nil)) (a_nil)))) (a_nil)))) (a_cons (e_tup (a_cons (e_tup (a_cons (e_tup (a_cons (e_tup (a_cons (e_c (.int 1)) (a_nil))) (a_nil))) (a_nil))) (a_nil))) (a_cons (e_lst (a_cons (e_lst (a_cons (e_tup (a_cons (e_c (.str [120])) (a_cons (e_c (.int 1)) (a_nil)))) (a_nil))) (a_cons (e_tup (a_nil)) (a_nil)))) (a_nil))))))))) (
  s_cons (s_expr (e_lm m_extend (e_var 1) (e_lst (a_cons (e_tup (a_cons (e_c (.str [103, 111])) (a_cons (e_tup (a_nil)) (a_nil)))) (a_cons (e_tup (a_cons (e_tup (a_cons (e_c (.str [103, 111])) (a_cons (e_tup (a_nil)) (a_nil)))) (a_nil))) (a_cons (e_tup (a_cons (e_c (.int 0)) (a_nil))) (a_cons (e_tup (a_cons (e_c (.bl true)) (a_nil))) (a_cons (e_tup (a_cons (e_c .non) (a_nil))) (a_cons (e_tup (a_cons (e_c (.str [120])) (a_cons (e_lst (a_nil)) (a_nil)))) (a_nil)))))))))) (
  s_ret (e_call (κ.fn 1) (a_cons (e_var 0) (a_cons (e_var 1) (a_nil)))))))))
def d_law_odd : Def := ⟨1, 2, b_law_odd⟩
/-- law_changed(_law_pot_here, _law_value) : 0 _law_pot_here, 1 _law_value, 2 _law_found -/
def b_law_changed (κ : Kap) : SS := s_cons (s_asg (e_call (κ.fn 7) (a_cons (e_var 0) (a_cons (e_var 1) (a_cons (e_c (.int 0)) (a_nil))))) (g_name 2)) (
  s_ret (e_if (t_b (e_2 o_ne (e_call (b_repr κ) (a_cons (e_var 2) (a_nil))) (e_call (b_repr κ) (a_cons (e_var 1) (a_nil))))) (e_var 2) (e_tup (a_cons (e_var 1) (a_nil)))))
def d_law_changed : Def := ⟨2, 3, b_law_changed⟩
/-- law_changed_in(_law_pot_here, _law_value, _law_deep) : 0 _law_pot_here, 1 _law_value, 2 _law_deep, 3 _law_spot -/
def b_law_changed_in (κ : Kap) : SS := s_cons (s_if (t_not (t_e (e_1 (o_isa sub .tTuple) (e_var 1)))) (s_ret (e_call (κ.fn 9) (a_cons (e_var 0) (a_cons (e_var 1) (a_nil))))) (s_nil)) (
  s_cons (s_if (t_or (t_b (e_2 o_eq (e_var 1) (e_tup (a_nil)))) (t_or (t_b (e_2 o_gt (e_var 2) (e_c (.int 7)))) (t_b (e_2 o_eq (e_call (κ.fn 0) (a_cons (e_var 0) (a_cons (e_c (.int 4)) (a_nil)))) (e_c (.int 0)))))) (s_ret (e_call (κ.fn 8) (a_cons (e_var 0) (a_cons (e_var 1) (a_nil))))) (s_nil)) (
  s_cons (s_asg (e_call (κ.fn 0) (a_cons (e_var 0) (a_cons (e_call b_len (a_cons (e_var 1) (a_nil))) (a_nil)))) (g_name 3)) (
  s_ret (e_2 o_add (e_2 o_add (e_slice (e_var 1) so_none (so_some (e_var 3))) (e_tup (a_cons (e_call (κ.fn 7) (a_cons (e_var 0) (a_cons (e_2 o_item (e_var 1) (e_var 3)) (a_cons (e_2 o_add (e_var 2) (e_c (.int 1))) (a_nil))))) (a_nil)))) (e_slice (e_var 1) (so_some (e_2 o_add (e_var 3) (e_c (.int 1)))) so_none)))))
def d_law_changed_in : Def := ⟨3, 4, b_law_changed_in⟩
/-- law_changed_row(_law_pot_here, _law_value) : 0 _law_pot_here, 1 _law_value, 2 _law_way, 3 _law_spot -/
def b_law_changed_row (κ : Kap) : SS := s_cons (s_par 2 3 (e_call (κ.fn 0) (a_cons (e_var 0) (a_cons (e_c (.int 9)) (a_nil)))) (e_call (κ.fn 0) (a_cons (e_var 0) (a_cons (e_2 o_add (e_call b_len (a_cons (e_var 1) (a_nil))) (e_c (.int 1))) (a_nil))))) (
  s_cons (s_if (t_and (t_b (e_2 o_eq (e_var 2) (e_c (.int 0)))) (t_b (e_2 o_ne (e_var 1) (e_tup (a_nil))))) (s_ret (e_if (t_b (e_2 o_lt (e_var 3) (e_call b_len (a_cons (e_var 1) (a_nil))))) (e_2 o_add (e_slice (e_var 1) so_none (so_some (e_var 3))) (e_slice (e_var 1) (so_some (e_2 o_add (e_var 3) (e_c (.int 1)))) so_none)) (e_slice (e_var 1) so_none (so_some (e_1 o_neg (e_c (.int 1))))))) (s_nil)) (
  s_cons (s_if (t_b (e_2 o_eq (e_var 2) (e_c (.int 1)))) (s_ret (e_2 o_add (e_2 o_add (e_slice (e_var 1) so_none (so_some (e_var 3))) (e_slice (e_var 1) (so_some (e_var 3)) (so_some (e_2 o_add (e_var 3) (e_c (.int 1)))))) (e_slice (e_var 1) (so_some (e_var 3)) so_none))) (s_nil)) (
  s_cons (s_if (t_b (e_2 o_eq (e_var 2) (e_c (.int 2)))) (s_ret (e_1 o_rev (e_var 1))) (s_nil)) (
  s_cons (s_if (t_b (e_2 o_eq (e_var 2) (e_c (.int 3)))) (s_ret (e_call b_list (a_cons (e_var 1) (a_nil)))) (s_nil)) (
  s_cons (s_if (t_b (e_2 o_eq (e_var 2) (e_c (.int 4)))) (s_ret (e_2 o_add (e_2 o_add (e_slice (e_var 1) so_none (so_some (e_var 3))) (e_tup (a_cons (e_call (κ.fn 5) (a_cons (e_var 0) (a_nil))) (a_nil)))) (e_slice (e_var 1) (so_some (e_var 3)) so_none))) (s_nil)) (
  s_cons (s_if (t_and (t_b (e_2 o_eq (e_var 2) (e_c (.int 5)))) (t_b (e_2 o_lt (e_2 o_add (e_var 3) (e_c (.int 1))) (e_call b_len (a_cons (e_var 1) (a_nil)))))) (s_ret (e_2 o_add (e_2 o_add (e_slice (e_var 1) so_none (so_some (e_var 3))) (e_tup (a_cons (e_2 o_item (e_var 1) (e_2 o_add (e_var 3) (e_c (.int 1)))) (a_cons (e_2 o_item (e_var 1) (e_var 3)) (a_nil))))) (e_slice (e_var 1) (so_some (e_2 o_add (e_var 3) (e_c (.int 2)))) so_none))) (s_nil)) (
  s_cons (s_if (t_and (t_b (e_2 o_eq (e_var 2) (e_c (.int 6)))) (t_b (e_2 o_ne (e_var 1) (e_tup (a_nil))))) (s_ret (e_2 o_add (e_2 o_add (e_slice (e_var 1) so_none (so_some (e_var 3))) (e_tup (a_cons (e_call (κ.fn 1) (a_cons (e_var 0) (a_cons (e_var 1) (a_nil)))) (a_nil)))) (e_slice (e_var 1) (so_some (e_var 3)) so_none))) (s_nil)) (
  s_ret (e_if (t_b (e_2 o_eq (e_var 2) (e_c (.int 7)))) (e_slice (e_var 1) (so_some (e_c (.int 1))) so_none) (e_call (κ.fn 5) (a_cons (e_var 0) (a_nil))))))))))))
def d_law_changed_row : Def := ⟨2, 4, b_law_changed_row⟩
/-- law_changed_leaf(_law_pot_here, _law_value) : 0 _law_pot_here, 1 _law_value, 2 _law_way, 3 _law_near -/
def b_law_changed_leaf (κ : Kap) : SS := s_cons (s_asg (e_call (κ.fn 0) (a_cons (e_var 0) (a_cons (e_c (.int 8)) (a_nil)))) (g_name 2)) (
  s_cons (s_if (t_or (t_e (e_1 (o_isa sub .tBool) (e_var 1))) (t_not (t_e (e_1 (o_isa2 sub .tInt .tStr) (e_var 1))))) (s_ret (e_call (κ.fn 5) (a_cons (e_var 0) (a_nil)))) (s_nil)) (
  s_cons (s_if (t_e (e_1 (o_isa sub .tInt) (e_var 1))) (s_cons (s_asg (e_lst (a_cons (e_2 o_add (e_var 1) (e_c (.int 1))) (a_cons (e_2 o_sub (e_var 1) (e_c (.int 1))) (a_cons (e_2 o_sub (e_1 o_neg (e_c (.int 1))) (e_var 1)) (a_cons (e_2 o_eq (e_var 1) (e_c (.int 1))) (a_cons (e_call b_str (a_cons (e_var 1) (a_nil))) (a_cons (e_tup (a_cons (e_var 1) (a_nil))) (a_cons (e_2 o_add (e_var 1) (e_2 o_pow (e_c (.int 10)) (e_c (.int 20)))) (a_nil))))))))) (g_name 3)) (
  s_ret (e_if (t_b (e_2 o_lt (e_var 2) (e_c (.int 7)))) (e_2 o_item (e_var 3) (e_var 2)) (e_call (κ.fn 5) (a_cons (e_var 0) (a_nil)))))) (s_nil)) (
  s_cons (s_asg (e_lst (a_cons (e_2 o_add (e_var 1) (e_c (.str [120]))) (a_cons (e_slice (e_var 1) so_none (so_some (e_1 o_neg (e_c (.int 1))))) (a_cons (e_slice (e_var 1) (so_some (e_c (.int 1))) so_none) (a_cons (e_1 o_upper (e_var 1)) (a_cons (e_tup (a_cons (e_var 1) (a_nil))) (a_cons (e_2 o_add (e_c (.str [120])) (e_var 1)) (a_cons (e_2 o_add (e_var 1) (e_c (.str [32]))) (a_nil))))))))) (g_name 3)) (
  s_ret (e_if (t_b (e_2 o_lt (e_var 2) (e_c (.int 7)))) (e_2 o_item (e_var 3) (e_var 2)) (e_call (κ.fn 5) (a_cons (e_var 0) (a_nil))))))))
def d_law_changed_leaf : Def := ⟨2, 4, b_law_changed_leaf⟩
/-- is_name(value) : 0 value, 1 letter -/
def b_is_name (κ : Kap) : SS := s_cons (s_if (t_or (t_not (t_e (e_1 (o_isa sub .tStr) (e_var 0)))) (t_or (t_not (t_b (e_chain o_le o_le (e_c (.int 1)) (e_call b_len (a_cons (e_var 0) (a_nil))) (e_c (.int 8))))) (t_b (e_2 o_in (e_var 0) (e_c (.tup [(.str [110, 101, 120, 116]), (.str [109, 111, 114, 101]), (.str [110, 111, 116]), (.str [115, 97, 109, 101]), (.str [108, 101, 115, 115]), (.str [97, 110, 100]), (.str [111, 114])])))))) (s_ret (e_c (.bl false))) (s_nil)) (
  s_ret (e_call b_all (a_cons (e_lc (i_str (e_var 0)) (g_name 1) (t_yes) (e_2 o_in (e_var 1) (e_c (.str [97, 98, 99, 100, 101, 102, 103, 104, 105, 106, 107, 108, 109, 110, 111, 112, 113, 114, 115, 116, 117, 118, 119, 120, 121, 122]))) [1]) (a_nil))))
def d_is_name : Def := ⟨1, 2, b_is_name⟩
/-- is_ascending(rows) : 0 rows, 1 one, 2 other -/
def b_is_ascending (κ : Kap) : SS := s_ret (e_call b_all (a_cons (e_lc (i_zipT (e_var 0) (e_slice (e_var 0) (so_some (e_c (.int 1))) so_none)) (g_tup 2 (g_cons (g_name 1) (g_cons (g_name 2) (g_nil)))) (t_yes) (e_2 o_lt (e_var 1) (e_var 2)) [1, 2]) (a_nil)))
def d_is_ascending : Def := ⟨1, 3, b_is_ascending⟩
/-- are_kinds(value) : 0 value, 1 kind -/
def b_are_kinds (κ : Kap) : SS := s_ret (e_and (e_1 (o_isa sub .tTuple) (e_var 0)) (e_and (e_call b_all (a_cons (e_lc (i_tup (e_var 0)) (g_name 1) (t_yes) (e_call (κ.fn 10) (a_cons (e_var 1) (a_nil))) [1]) (a_nil))) (e_call (κ.fn 11) (a_cons (e_var 0) (a_nil)))))
def d_are_kinds : Def := ⟨1, 2, b_are_kinds⟩
/-- Build_init(self, kinds) : 0 self, 1 kinds -/
def b_Build_init (κ : Kap) : SS := s_cons (s_if (t_not (t_e (e_call (κ.fn 12) (a_cons (e_var 1) (a_nil))))) (s_raise 0 (e_var 1)) (s_nil)) (
  s_attr "own_kinds" (e_var 0) (e_var 1))
def d_Build_init : Def := ⟨2, 2, b_Build_init⟩
/-- Build_kinds(self) : 0 self -/
def b_Build_kinds (κ : Kap) : SS := s_ret (e_1 (o_fld "own_kinds") (e_var 0))
def d_Build_kinds : Def := ⟨1, 1, b_Build_kinds⟩
/-- Build_eq(self, other) : 0 self, 1 other -/
def b_Build_eq (κ : Kap) : SS := s_ret (e_and (e_1 (o_isa sub (.own 0)) (e_var 1)) (e_2 o_eq (e_1 (o_fld "own_kinds") (e_var 0)) (e_1 (o_fld "own_kinds") (e_var 1))))
def d_Build_eq : Def := ⟨2, 2, b_Build_eq⟩
/-- Build_contains(self, kind) : 0 self, 1 kind -/
def b_Build_contains (κ : Kap) : SS := s_ret (e_and (e_1 (o_isa sub .tStr) (e_var 1)) (e_2 o_in (e_var 1) (e_1 (o_fld "own_kinds") (e_var 0))))
def d_Build_contains : Def := ⟨2, 2, b_Build_contains⟩
/-- law_is_name(_law_value) : 0 _law_value, 1 _law_letter -/
def b_law_is_name (κ : Kap) : SS := s_cons (s_if (t_or (t_not (t_e (e_1 (o_isa sub .tStr) (e_var 0)))) (t_or (t_b (e_2 o_lt (e_call b_len (a_cons (e_var 0) (a_nil))) (e_c (.int 1)))) (t_b (e_2 o_gt (e_call b_len (a_cons (e_var 0) (a_nil))) (e_c (.int 8)))))) (s_ret (e_c (.bl false))) (s_nil)) (
  s_cons (s_if (t_b (e_2 o_in (e_var 0) (e_tup (a_cons (e_c (.str [110, 101, 120, 116])) (a_cons (e_c (.str [109, 111, 114, 101])) (a_cons (e_c (.str [110, 111, 116])) (a_cons (e_c (.str [115, 97, 109, 101])) (a_cons (e_c (.str [108, 101, 115, 115])) (a_cons (e_c (.str [97, 110, 100])) (a_cons (e_c (.str [111, 114])) (a_nil))))))))))) (s_ret (e_c (.bl false))) (s_nil)) (
  s_ret (e_call b_all (a_cons (e_lc (i_str (e_var 0)) (g_name 1) (t_yes) (e_2 o_in (e_var 1) (e_c (.str [97, 98, 99, 100, 101, 102, 103, 104, 105, 106, 107, 108, 109, 110, 111, 112, 113, 114, 115, 116, 117, 118, 119, 120, 121, 122]))) [1]) (a_nil)))))
def d_law_is_name : Def := ⟨1, 2, b_law_is_name⟩
/-- law_are_kinds(_law_value) : 0 _law_value, 1 _law_at, 2 _law_one -/
def b_law_are_kinds (κ : Kap) : SS := s_cons (s_if (t_or (t_not (t_e (e_1 (o_isa sub .tTuple) (e_var 0)))) (t_not (t_e (e_call b_all (a_cons (e_lc (i_tup (e_var 0)) (g_name 2) (t_yes) (e_call (κ.fn 17) (a_cons (e_var 2) (a_nil))) [2]) (a_nil)))))) (s_ret (e_c (.bl false))) (s_nil)) (
  s_ret (e_call b_all (a_cons (e_lc (i_rng1 (e_2 o_sub (e_call b_len (a_cons (e_var 0) (a_nil))) (e_c (.int 1)))) (g_name 1) (t_yes) (e_2 o_lt (e_2 o_item (e_var 0) (e_var 1)) (e_2 o_item (e_var 0) (e_2 o_add (e_var 1) (e_c (.int 1))))) [1]) (a_nil))))
def d_law_are_kinds : Def := ⟨1, 3, b_law_are_kinds⟩
/-- law_told(_law_value) : 0 _law_value, 1 error -/
def b_law_told (κ : Kap) : SS := s_try (s_ret (e_tup (a_cons (e_prop κ 0 14 (e_call (o_new κ 0 13) (a_cons (e_var 0) (a_nil)))) (a_cons (e_c (.str [107, 105, 110, 100, 115])) (a_nil))))) [⟨fun c => sub c 1000, some 1, s_ret (e_tup (a_cons (e_1 o_errval (e_var 1)) (a_cons (e_c (.str [110, 111, 110, 101])) (a_nil))))⟩]
def d_law_told : Def := ⟨1, 2, b_law_told⟩
/-- law_base(_law_value) : 0 _law_value, 1 error -/
def b_law_base (κ : Kap) : SS := s_cons (s_try (s_expr (e_call (o_new κ 0 13) (a_cons (e_var 0) (a_nil)))) [⟨fun c => sub c 1001, none, s_ret (e_c (.bl false))⟩, ⟨fun c => sub c 1002, some 1, s_ret (e_and (e_1 (o_isa sub .tVal) (e_var 1)) (e_1 (o_isa sub (.eown 0)) (e_var 1)))⟩]) (
  s_ret (e_c (.bl false)))
def d_law_base : Def := ⟨1, 2, b_law_base⟩
/-- law_no_name(_law_pot_here) : 0 _law_pot_here, 1 _law_word_here -/
def b_law_no_name (κ : Kap) : SS := s_cons (s_asg (e_2 o_add (e_call (κ.fn 4) (a_cons (e_var 0) (a_nil))) (e_call (κ.fn 1) (a_cons (e_var 0) (a_cons (e_lst (a_cons (e_c (.str [65])) (a_cons (e_c (.str [48])) (a_cons (e_c (.str [95])) (a_cons (e_c (.str [45])) (a_cons (e_c (.str [32])) (a_cons (e_c (.str [33])) (a_cons (e_c (.str [119, 111, 114, 100, 116, 111, 111, 108, 111, 110, 103])) (a_cons (e_c (.str [44])) (a_cons (e_c (.str [90])) (a_nil))))))))))) (a_nil))))) (g_name 1)) (
  s_ret (e_if (t_b (e_2 o_eq (e_call (κ.fn 0) (a_cons (e_var 0) (a_cons (e_c (.int 2)) (a_nil)))) (e_c (.int 0)))) (e_2 o_add (e_2 o_item (e_var 1) (e_1 o_neg (e_c (.int 1)))) (e_slice (e_var 1) so_none (so_some (e_1 o_neg (e_c (.int 1)))))) (e_var 1)))
def d_law_no_name : Def := ⟨1, 2, b_law_no_name⟩
/-- law_met(_law_pot_here) : 0 _law_pot_here, 1 _law_names, 2 _law_kinds, 3 _law_at, 4 _law_wrong, 5 _law_odd_here, 6 _law_changed_here, 7 _law_value, 8 _law_build, 9 _law_some, 10 _law_due, 11 _law_one, 12 _law_lap -/
def b_law_met (κ : Kap) : SS := s_cons (s_asg (e_call (κ.fn 3) (a_cons (e_lc (i_rng1 (e_call (κ.fn 0) (a_cons (e_var 0) (a_cons (e_c (.int 7)) (a_nil))))) (g_name 12) (t_yes) (e_call (κ.fn 4) (a_cons (e_var 0) (a_nil))) [12]) (a_nil))) (g_name 1)) (
  s_cons (s_par 2 3 (e_call b_tuple (a_cons (e_var 1) (a_nil))) (e_call (κ.fn 0) (a_cons (e_var 0) (a_cons (e_2 o_add (e_call b_len (a_cons (e_var 1) (a_nil))) (e_c (.int 1))) (a_nil))))) (
  s_cons (s_asg (e_2 o_add (e_2 o_add (e_slice (e_var 2) so_none (so_some (e_var 3))) (e_tup (a_cons (e_call (κ.fn 21) (a_cons (e_var 0) (a_nil))) (a_nil)))) (e_slice (e_var 2) (so_some (e_var 3)) so_none)) (g_name 4)) (
  s_cons (s_par 5 6 (e_call (κ.fn 5) (a_cons (e_var 0) (a_nil))) (e_call (κ.fn 6) (a_cons (e_var 0) (a_cons (e_var 2) (a_nil))))) (
  s_cons (s_for (i_list (e_lst (a_cons (e_var 2) (a_cons (e_var 4) (a_cons (e_var 5) (a_cons (e_var 6) (a_cons (e_call b_list (a_cons (e_var 2) (a_nil))) (a_cons (e_1 o_rev (e_var 2)) (a_cons (e_2 o_add (e_var 2) (e_var 2)) (a_cons (e_tup (a_cons (e_c (.str [110, 101, 120, 116])) (a_nil))) (a_cons (e_tup (a_cons (e_c (.str [])) (a_nil))) (a_cons (e_c (.str [97])) (a_cons (e_c .non) (a_nil)))))))))))))) (g_name 7) (s_cons (s_asg (e_if (t_e (e_call (κ.fn 18) (a_cons (e_var 7) (a_nil)))) (e_tup (a_cons (e_var 7) (a_cons (e_c (.str [107, 105, 110, 100, 115])) (a_nil)))) (e_tup (a_cons (e_var 7) (a_cons (e_c (.str [110, 111, 110, 101])) (a_nil))))) (g_name 10)) (
  s_cons (s_if (t_b (e_2 o_ne (e_call (b_repr κ) (a_cons (e_call (κ.fn 19) (a_cons (e_var 7) (a_nil))) (a_nil))) (e_call (b_repr κ) (a_cons (e_var 10) (a_nil))))) (s_ret (e_c (.bl false))) (s_nil)) (
  s_if (t_and (t_b (e_2 o_eq (e_2 o_item (e_var 10) (e_c (.int 1))) (e_c (.str [110, 111, 110, 101])))) (t_not (t_e (e_call (κ.fn 20) (a_cons (e_var 7) (a_nil)))))) (s_ret (e_c (.bl false))) (s_nil))))) (
  s_cons (s_asg (e_call (o_new κ 0 13) (a_cons (e_var 2) (a_nil))) (g_name 8)) (
  s_cons (s_asg (e_2 o_add (e_lst (a_cons (e_call (κ.fn 5) (a_cons (e_var 0) (a_nil))) (a_cons (e_call (κ.fn 21) (a_cons (e_var 0) (a_nil))) (a_cons (e_var 2) (a_cons (e_c .non) (a_cons (e_c (.bl true)) (a_cons (e_c (.int 0)) (a_nil)))))))) (e_var 1)) (g_name 9)) (
  s_cons (s_asg (e_lc (i_list (e_var 9)) (g_name 11) (t_yes) (e_and (e_1 (o_isa sub .tStr) (e_var 11)) (e_2 o_in (e_var 11) (e_var 1))) [11]) (g_name 10)) (
  s_cons (s_if (t_or (t_b (e_2 o_ne (e_call (b_repr κ) (a_cons (e_lc (i_list (e_var 9)) (g_name 11) (t_yes) (e_2 (o_ownIn κ 0 16) (e_var 11) (e_var 8)) [11]) (a_nil))) (e_call (b_repr κ) (a_cons (e_var 10) (a_nil))))) (t_b (e_2 o_isnotB (e_2 (o_cmpA κ 0 15) (e_var 8) (e_call (κ.fn 5) (a_cons (e_var 0) (a_nil)))) (e_c (.bl false))))) (s_ret (e_c (.bl false))) (s_nil)) (
  s_ret (e_2 o_eq (e_call (b_repr κ) (a_cons (e_lst (a_cons (e_2 (o_cmp κ 0 15) (e_var 8) (e_call (o_new κ 0 13) (a_cons (e_var 2) (a_nil)))) (a_cons (e_2 (o_cmpA κ 0 15) (e_var 8) (e_var 2)) (a_cons (e_1 o_errval (e_err 1 (e_var 5))) (a_nil))))) (a_nil))) (e_call (b_repr κ) (a_cons (e_lst (a_cons (e_c (.bl true)) (a_cons (e_c (.bl false)) (a_cons (e_var 5) (a_nil))))) (a_nil)))))))))))))
def d_law_met : Def := ⟨1, 13, b_law_met⟩
/-- law(_law_script) : 0 _law_script, 1 _law_k -/
def b_law (κ : Kap) : SS := s_cons (s_for (i_rng1 (e_call b_max (a_cons (e_c (.int 1)) (a_cons (e_call b_min (a_cons (e_call b_len (a_cons (e_var 0) (a_nil))) (a_cons (e_c (.int 10)) (a_nil)))) (a_nil))))) (g_name 1) (s_if (t_not (t_e (e_call (κ.fn 22) (a_cons (e_call (κ.fn 2) (a_cons (e_var 0) (a_cons (e_var 1) (a_nil)))) (a_nil))))) (s_ret (e_c (.bl false))) (s_nil))) (
  s_ret (e_c (.bl true)))
def d_law : Def := ⟨1, 2, b_law⟩
def defs : Nat → Option Def
  | 0 => some d_law_take
  | 1 => some d_law_of
  | 2 => some d_law_pot
  | 3 => some d_law_ordered
  | 4 => some d_law_word
  | 5 => some d_law_odd
  | 6 => some d_law_changed
  | 7 => some d_law_changed_in
  | 8 => some d_law_changed_row
  | 9 => some d_law_changed_leaf
  | 10 => some d_is_name
  | 11 => some d_is_ascending
  | 12 => some d_are_kinds
  | 13 => some d_Build_init
  | 14 => some d_Build_kinds
  | 15 => some d_Build_eq
  | 16 => some d_Build_contains
  | 17 => some d_law_is_name
  | 18 => some d_law_are_kinds
  | 19 => some d_law_told
  | 20 => some d_law_base
  | 21 => some d_law_no_name
  | 22 => some d_law_met
  | 23 => some d_law
  | _ => none
def prog (sh : PX → Txt) : Prog := ⟨defs, sh⟩
end K02
end

section
set_option linter.all false
set_option autoImplicit false
set_option maxRecDepth 100000
set_option maxHeartbeats 1000000
namespace K02
open IR Lw
variable {sh : PX → Txt}
instance : Lw.Has (prog sh) := ⟨rfl, rfl, rfl⟩
instance : Lw.HasW (prog sh) := ⟨rfl, rfl⟩
instance : Lw.HasO (prog sh) := ⟨rfl⟩
instance : Lw.HasC (prog sh) sub := ⟨rfl, rfl, rfl, rfl⟩
/-- one letter -/
def letD : D → Bool
  | .str [c] => decide (c ∈ abc)
  | _ => false
def nameT (s : Txt) : Bool := decide (1 ≤ s.length) && (decide (s.length ≤ 8) && (!decide (s ∈ taken) && s.all fun c => decide (c ∈ abc)))
def nameD : D → Bool
  | .str s => nameT s
  | _ => false
theorem isIn_abc {h : Heap} {c : Nat} : isIn h (.str [c]) (.str abc) = some (decide (c ∈ abc)) := by
  simp [isIn]
theorem all_let (s : Txt) : ((s.map fun c => D.str [c]).all letD) = s.all fun c => decide (c ∈ abc) := by
  induction s with
  | nil => rfl
  | cons a r ih => simp only [List.map_cons, List.all_cons, ih, letD]
theorem letters_lc {h : Heap} {s : Txt} {i : Nat} {σ : Env} (hl : s.length ≤ LIM) (h0 : σ[0]? = some (some (.str s))) (hσ : σ.length = 2) :
    e_lc (i_str (e_var 0)) (g_name 1) (t_yes) (e_2 o_in (e_var 1) (e_c (.str abc))) [1] σ h = .ok (.ref h.length) (h ++ [.lst ((s.map fun c => D.str [c]).map fun x => .bl (letD x))]) := by
  refine lc_all (src := ⟨s.map fun c => .str [c], []⟩) (fun x => .bl (letD x)) (by simp [i_str, e_var, h0]) (fun _ => rfl) (by simpa using hl) (fun x hx acc => ?_)
  obtain ⟨c, hc, rfl⟩ := List.mem_map.mp hx
  refine ⟨_, rfl, ?_⟩
  have l1 : 1 < (wipe σ [1]).length := by simp [wipe, hσ]
  simp [e_2, e_var, e_c, o_in, isIn_abc, liftO_some, okB, gc_bl, letD, l1]
theorem is_name_gen {n W B nn : Nat} {S : List Nat} {h : Heap} {v : D} (hn : 4 ≤ n) (g : Good S h B nn W v) (hW : W ≤ 100000) : callF (prog sh) n 10 [v] h = .ok (.bl (nameD v)) h := by
  obtain ⟨m, rfl⟩ : ∃ m, n = m + 4 := ⟨n - 4, by omega⟩
  rw [callF_succ _ _ _ _ _ d_is_name rfl]
  have gB : ∀ b : Bool, gcB h (.ok b h) = .ok b h := fun b => gcB_self
  have ga : ∀ (b : Bool) (g : Heap), gc h (.ok (.bl b) (h ++ g)) = .ok (.bl b) h := fun b g => gc_app rfl
  cases v with
  | str s =>
    have hl := g.unstr.2
    have l3 : s.length ≤ 16777216 := by omega
    have lc := letters_lc (h := h) (s := s) (i := 1) (σ := [some (.str s), none]) (by simp only [LIM]; omega) rfl rfl
    have inT : isIn h (.str s) (.tup [.str [110, 101, 120, 116], .str [109, 111, 114, 101], .str [110, 111, 116], .str [115, 97, 109, 101], .str [108, 101, 115, 115], .str [97, 110, 100], .str [111, 114]]) = some (decide (s ∈ taken)) := isIn_tup (l := taken)
    unfold abc at lc
    by_cases c1 : 1 ≤ s.length
    · have c1' : (1 : Int) ≤ s.length := by omega
      by_cases c2 : s.length ≤ 8
      · have c2' : (s.length : Int) ≤ 8 := by omega
        by_cases c3 : s ∈ taken
        · simp [runDef, d_is_name, b_is_name, s_cons, s_if, t_or, t_not, t_e, e_1, e_var, o_isa, isTy, Ty.str, liftO_some, okB, truth, t_b, e_chain, e_c, e_call, a_cons, a_nil, b_len, lenD, l3, LIM, o_le, asB, c1', c2', e_2, o_in, inT, c3, gB, Flow.then, s_nil, s_ret, nameD, nameT, gc_bl]
        · simp only [nameD, nameT, decide_eq_true c1, decide_eq_true c2, decide_eq_false c3, Bool.not_false, Bool.true_and, ← all_let]
          simp [runDef, d_is_name, b_is_name, s_cons, s_if, t_or, t_not, t_e, e_1, e_var, o_isa, isTy, Ty.str, liftO_some, okB, truth, t_b, e_chain, e_c, e_call, a_cons, a_nil, b_len, lenD, l3, LIM, o_le, asB, c1', c2', e_2, o_in, inT, c3, gB, Flow.then, s_nil, s_ret, lc, all_new, ga, -List.map_map, -List.all_map]
      · have c2' : ¬ (s.length : Int) ≤ 8 := by omega
        simp [runDef, d_is_name, b_is_name, s_cons, s_if, t_or, t_not, t_e, e_1, e_var, o_isa, isTy, Ty.str, liftO_some, okB, truth, t_b, e_chain, e_c, e_call, a_cons, a_nil, b_len, lenD, l3, LIM, o_le, asB, c1', c2', gB, Flow.then, s_nil, s_ret, nameD, nameT, gc_bl, c2]
    · have c1' : ¬ (1 : Int) ≤ s.length := by omega
      simp [runDef, d_is_name, b_is_name, s_cons, s_if, t_or, t_not, t_e, e_1, e_var, o_isa, isTy, Ty.str, liftO_some, okB, truth, t_b, e_chain, e_c, e_call, a_cons, a_nil, b_len, lenD, l3, LIM, o_le, asB, c1', gB, Flow.then, s_nil, s_ret, nameD, nameT, gc_bl, c1]
  | ref k =>
    obtain ⟨_, ⟨ds, e⟩ | ⟨ds, e⟩⟩ := g.unref <;> simp [runDef, d_is_name, b_is_name, s_cons, s_if, t_or, t_not, t_e, e_1, e_var, o_isa, isTy, e, Ty.lst, Ty.dic, liftO_some, okB, truth, gB, Flow.then, s_ret, e_c, nameD, gc_bl]
  | _ => simp [runDef, d_is_name, b_is_name, s_cons, s_if, t_or, t_not, t_e, e_1, e_var, o_isa, isTy, Ty.bl, Ty.int, Ty.tup, Ty.lst, liftO_some, okB, truth, gB, Flow.then, s_ret, e_c, nameD, gc_bl]
end K02
end

section
set_option linter.all false
set_option autoImplicit false
set_option maxRecDepth 100000
set_option maxHeartbeats 1000000
namespace K02
open IR Lw
variable {sh : PX → Txt}
theorem law_name_gen {n W B nn : Nat} {S : List Nat} {h : Heap} {v : D} (hn : 4 ≤ n) (g : Good S h B nn W v) (hW : W ≤ 100000) : callF (prog sh) n 17 [v] h = .ok (.bl (nameD v)) h := by
  obtain ⟨m, rfl⟩ : ∃ m, n = m + 4 := ⟨n - 4, by omega⟩
  rw [callF_succ _ _ _ _ _ d_law_is_name rfl]
  have gB : ∀ b : Bool, gcB h (.ok b h) = .ok b h := fun b => gcB_self
  have ga : ∀ (b : Bool) (g : Heap), gc h (.ok (.bl b) (h ++ g)) = .ok (.bl b) h := fun b g => gc_app rfl
  cases v with
  | str s =>
    have hl := g.unstr.2
    have l3 : s.length ≤ 16777216 := by omega
    have lc := letters_lc (h := h) (s := s) (i := 1) (σ := [some (.str s), none]) (by simp only [LIM]; omega) rfl rfl
    have inT : isIn h (.str s) (.tup [.str [110, 101, 120, 116], .str [109, 111, 114, 101], .str [110, 111, 116], .str [115, 97, 109, 101], .str [108, 101, 115, 115], .str [97, 110, 100], .str [111, 114]]) = some (decide (s ∈ taken)) := isIn_tup (l := taken)
    unfold abc at lc
    by_cases c1 : 1 ≤ s.length
    · have c1' : ¬ (s.length : Int) < 1 := by omega
      by_cases c2 : s.length ≤ 8
      · have c2' : ¬ (8 : Int) < s.length := by omega
        by_cases c3 : s ∈ taken
        · simp [runDef, d_law_is_name, b_law_is_name, s_cons, s_if, t_or, t_not, t_e, e_1, e_var, o_isa, isTy, Ty.str, liftO_some, okB, truth, t_b, e_c, e_call, a_cons, a_nil, b_len, lenD, l3, LIM, o_lt, o_gt, asB, c1', c2', e_2, e_tup, o_in, inT, c3, gB, Flow.then, s_nil, s_ret, nameD, nameT, gc_bl]
        · simp only [nameD, nameT, decide_eq_true c1, decide_eq_true c2, decide_eq_false c3, Bool.not_false, Bool.true_and, ← all_let]
          simp [runDef, d_law_is_name, b_law_is_name, s_cons, s_if, t_or, t_not, t_e, e_1, e_var, o_isa, isTy, Ty.str, liftO_some, okB, truth, t_b, e_c, e_call, a_cons, a_nil, b_len, lenD, l3, LIM, o_lt, o_gt, asB, c1', c2', e_2, e_tup, o_in, inT, c3, gB, Flow.then, s_nil, s_ret, lc, all_new, ga, -List.map_map, -List.all_map]
      · have c2' : (8 : Int) < s.length := by omega
        simp [runDef, d_law_is_name, b_law_is_name, s_cons, s_if, t_or, t_not, t_e, e_1, e_2, e_var, o_isa, isTy, Ty.str, liftO_some, okB, truth, t_b, e_c, e_call, a_cons, a_nil, b_len, lenD, l3, LIM, o_lt, o_gt, asB, c1', c2', gB, Flow.then, s_nil, s_ret, nameD, nameT, gc_bl, c2]
    · have c1' : (s.length : Int) < 1 := by omega
      simp [runDef, d_law_is_name, b_law_is_name, s_cons, s_if, t_or, t_not, t_e, e_1, e_2, e_var, o_isa, isTy, Ty.str, liftO_some, okB, truth, t_b, e_c, e_call, a_cons, a_nil, b_len, lenD, l3, LIM, o_lt, o_gt, asB, c1', gB, Flow.then, s_nil, s_ret, nameD, nameT, gc_bl, c1]
  | ref k =>
    obtain ⟨_, ⟨ds, e⟩ | ⟨ds, e⟩⟩ := g.unref <;> simp [runDef, d_law_is_name, b_law_is_name, s_cons, s_if, t_or, t_not, t_e, e_1, e_var, o_isa, isTy, e, Ty.lst, Ty.dic, liftO_some, okB, truth, gB, Flow.then, s_ret, e_c, nameD, gc_bl]
  | _ => simp [runDef, d_law_is_name, b_law_is_name, s_cons, s_if, t_or, t_not, t_e, e_1, e_var, o_isa, isTy, Ty.bl, Ty.int, Ty.tup, Ty.lst, liftO_some, okB, truth, gB, Flow.then, s_ret, e_c, nameD, gc_bl]
/-- each less than the next one -/
def adj : List Txt → Bool
  | a :: b :: r => ltT a b && adj (b :: r)
  | _ => true
def ltP : D → Bool
  | .tup [.str a, .str b] => ltT a b
  | _ => false
theorem zip_adj : ∀ l : List Txt, (zipD (txts l) (txts (l.drop 1))).all ltP = adj l
  | [] => rfl
  | [a] => rfl
  | a :: b :: r => by
    have ih := zip_adj (b :: r)
    have e : zipD (txts (a :: b :: r)) (txts ((a :: b :: r).drop 1)) = .tup [.str a, .str b] :: zipD (txts (b :: r)) (txts ((b :: r).drop 1)) := rfl
    rw [e, List.all_cons, ih]
    rfl
theorem zip_mem2 : ∀ {l : List Txt} {x : D}, x ∈ zipD (txts l) (txts (l.drop 1)) → ∃ a b, x = .tup [.str a, .str b]
  | [], x, h => by simp [zipD] at h
  | [a], x, h => by simp [zipD] at h
  | a :: b :: r, x, h => by
    have e : zipD (txts (a :: b :: r)) (txts ((a :: b :: r).drop 1)) = .tup [.str a, .str b] :: zipD (txts (b :: r)) (txts ((b :: r).drop 1)) := rfl
    rw [e] at h
    rcases List.mem_cons.mp h with h | h
    · exact ⟨a, b, h⟩
    · exact zip_mem2 (l := b :: r) h
theorem zip_small : ∀ (a b : List D), (zipD a b).length ≤ a.length
  | [], _ => by simp [zipD]
  | _ :: _, [] => by simp [zipD]
  | x :: a, y :: b => by simp [zipD]; exact zip_small a b
theorem ascending_gen {n : Nat} {h : Heap} {l : List Txt} (hn : 4 ≤ n) (hl : l.length ≤ 100000) : callF (prog sh) n 11 [.tup (txts l)] h = .ok (.bl (adj l)) h := by
  obtain ⟨m, rfl⟩ : ∃ m, n = m + 4 := ⟨n - 4, by omega⟩
  rw [callF_succ _ _ _ _ _ d_is_ascending rfl]
  have lc := lc_all (it := i_zipT (e_var 0) (e_slice (e_var 0) (so_some (e_c (.int 1))) so_none)) (g := g_tup 2 (g_cons (g_name 1) (g_cons (g_name 2) (g_nil)))) (e := e_2 o_lt (e_var 1) (e_var 2)) (own := [1, 2]) (σ := [some (.tup (txts l)), none, none]) (h := h)
    (src := ⟨zipD (txts l) (txts (l.drop 1)), []⟩) (fun x => .bl (ltP x))
    (by
      have c1 : cut (txts l) (some 1) none = txts (l.drop 1) := by
        cases l with
        | nil => rfl
        | cons a r => simp [cut, sIx, txts, List.take_of_length_le]
      simp [i_zipT, e_var, e_slice, so_some, so_none, e_c, asI, liftO_some, o_slice, c1]) (fun _ => rfl) (by have := zip_small (txts l) (txts (l.drop 1)); simp only [txts, List.length_map] at this ⊢; simp only [LIM]; omega) (fun x hx acc => by
      obtain ⟨a, b, rfl⟩ := zip_mem2 hx
      refine ⟨[some (.tup (txts l)), some (.str a), some (.str b)], by simp [g_tup, g_cons, g_name, g_nil, wipe, Flow.then], ?_⟩
      simp [e_2, e_var, o_lt, okB, gc_bl, ltP])
  have ga : ∀ (b : Bool) (g : Heap), gc h (.ok (.bl b) (h ++ g)) = .ok (.bl b) h := fun b g => gc_app rfl
  rw [← zip_adj]
  simp [runDef, d_is_ascending, b_is_ascending, s_ret, e_call, a_cons, a_nil, lc, all_new, ga, -List.map_map, -List.all_map]
/-- the texts of a row -/
def texts : List D → List Txt
  | [] => []
  | .str s :: r => s :: texts r
  | _ :: r => texts r
theorem texts_of : ∀ {ds : List D}, ds.all nameD = true → ds = txts (texts ds)
  | [], _ => rfl
  | d :: r, h => by
    simp only [List.all_cons, Bool.and_eq_true] at h
    have ih := texts_of h.2
    cases d with
    | str s =>
      show D.str s :: r = .str s :: txts (texts r)
      rw [← ih]
    | _ => simp [nameD] at h
theorem texts_txts (l : List Txt) : texts (txts l) = l := by
  induction l with
  | nil => rfl
  | cons a r ih => show a :: texts (txts r) = _; rw [ih]
/-- ascending tuples of names -/
def kindsB : D → Bool
  | .tup ds => ds.all nameD && adj (texts ds)
  | _ => false
theorem kinds_gen {n W B nn : Nat} {S : List Nat} {h : Heap} {v : D} (hn : 5 ≤ n) (g : Good S h B (nn + 1) W v) (hW : W ≤ 100000) : callF (prog sh) n 12 [v] h = .ok (.bl (kindsB v)) h := by
  obtain ⟨m, rfl⟩ : ∃ m, n = m + 1 + 4 := ⟨n - 5, by omega⟩
  rw [callF_succ _ _ _ _ _ d_are_kinds rfl]
  have ga : ∀ (b : Bool) (g : Heap), gc h (.ok (.bl b) (h ++ g)) = .ok (.bl b) h := fun b g => gc_app rfl
  cases v with
  | tup ds =>
    have gs := g.untup
    have hl := gs.len
    have lc := lc_all (it := i_tup (e_var 0)) (g := g_name 1) (e := e_call ((kap (prog sh) (m + 1)).fn 10) (a_cons (e_var 1) (a_nil))) (own := [1]) (σ := [some (.tup ds), none]) (h := h) (src := ⟨ds, []⟩) (fun x => .bl (nameD x))
      (by simp [i_tup, e_var]) (fun _ => rfl) (by simp only [LIM]; omega) (fun x hx acc => by
        refine ⟨_, rfl, ?_⟩
        have := is_name_gen (sh := sh) (n := m + 1 + 3) (h := h ++ [.lst acc]) (by omega) ((gs.mem hx).ext Ext.app) hW
        simp [wipe, e_call, a_cons, a_nil, e_var, this, gc_bl])
    cases hb : ds.all nameD with
    | false => simp [runDef, d_are_kinds, b_are_kinds, s_ret, e_and, e_1, e_var, o_isa, isTy, Ty.tup, liftO_some, okB, asB, e_call, a_cons, a_nil, lc, all_new, ga, kindsB, hb, -List.map_map]
    | true =>
      have e := texts_of hb
      have as := fun h => ascending_gen (sh := sh) (n := m + 1 + 3) (h := h) (l := texts ds) (by omega) (by have := congrArg List.length e; simp at this; omega)
      rw [← e] at as
      simp [runDef, d_are_kinds, b_are_kinds, s_ret, e_and, e_1, e_var, o_isa, isTy, Ty.tup, liftO_some, okB, asB, e_call, a_cons, a_nil, lc, all_new, as, ga, kindsB, hb, -List.map_map]
  | ref k =>
    obtain ⟨_, ⟨ds, e⟩ | ⟨ds, e⟩⟩ := g.unref <;> simp [runDef, d_are_kinds, b_are_kinds, s_ret, e_and, e_1, e_var, o_isa, isTy, e, Ty.lst, Ty.dic, liftO_some, okB, asB, kindsB, gc_bl]
  | _ => simp [runDef, d_are_kinds, b_are_kinds, s_ret, e_and, e_1, e_var, o_isa, isTy, Ty.bl, Ty.int, Ty.str, Ty.lst, liftO_some, okB, asB, kindsB, gc_bl]
end K02
end

section
set_option linter.all false
set_option autoImplicit false
set_option maxRecDepth 100000
set_option maxHeartbeats 1000000
namespace K02
open IR Lw
variable {sh : PX → Txt}
def ltAt (l : List Txt) : D → Bool
  | .int i => ltT (l.getD i.toNat []) (l.getD (i.toNat + 1) [])
  | _ => false
theorem range_adj : ∀ l : List Txt, ((List.range (l.length - 1)).all fun k => ltT (l.getD k []) (l.getD (k + 1) [])) = adj l
  | [] => rfl
  | [a] => rfl
  | a :: b :: r => by
    have ih := range_adj (b :: r)
    have e : (a :: b :: r).length - 1 = (b :: r).length - 1 + 1 := by simp
    rw [e, List.range_succ_eq_map, List.all_cons, List.all_map]
    simp only [adj]
    rw [← ih]
    rfl
theorem rng_adj (l : List Txt) : (rng 0 (l.length - 1) 1).all (ltAt l) = adj l := by
  rw [← range_adj]
  simp only [rng, List.all_map]
  congr 1
  funext k
  simp [ltAt]
theorem law_kinds_gen {n W B nn : Nat} {S : List Nat} {h : Heap} {v : D} (hn : 5 ≤ n) (g : Good S h B (nn + 1) W v) (hW : W ≤ 100000) : callF (prog sh) n 18 [v] h = .ok (.bl (kindsB v)) h := by
  obtain ⟨m, rfl⟩ : ∃ m, n = m + 1 + 4 := ⟨n - 5, by omega⟩
  rw [callF_succ _ _ _ _ _ d_law_are_kinds rfl]
  have ga : ∀ (b : Bool) (g : Heap), gc h (.ok (.bl b) (h ++ g)) = .ok (.bl b) h := fun b g => gc_app rfl
  have gB : ∀ b : Bool, gcB h (.ok b h) = .ok b h := fun b => gcB_self
  have gBa : ∀ (b : Bool) (g : Heap), gcB h (.ok b (h ++ g)) = .ok b h := fun b g => gcB_app
  cases v with
  | tup ds =>
    have gs := g.untup
    have hl := gs.len
    have lc := lc_all (it := i_tup (e_var 0)) (g := g_name 2) (e := e_call ((kap (prog sh) (m + 1)).fn 17) (a_cons (e_var 2) (a_nil))) (own := [2]) (σ := [some (.tup ds), none, none]) (h := h) (src := ⟨ds, []⟩) (fun x => .bl (nameD x))
      (by simp [i_tup, e_var]) (fun _ => rfl) (by simp only [LIM]; omega) (fun x hx acc => by
        refine ⟨_, rfl, ?_⟩
        have := law_name_gen (sh := sh) (n := m + 1 + 3) (h := h ++ [.lst acc]) (by omega) ((gs.mem hx).ext Ext.app) hW
        simp [wipe, e_call, a_cons, a_nil, e_var, this, gc_bl])
    cases hb : ds.all nameD with
    | false => simp [runDef, d_law_are_kinds, b_law_are_kinds, s_cons, s_if, t_or, t_not, t_e, truth, s_ret, e_1, e_var, e_c, o_isa, isTy, Ty.tup, liftO_some, okB, asB, e_call, a_cons, a_nil, lc, all_new, ga, gBa, kindsB, hb, Flow.then, gc_bl, -List.map_map]
    | true =>
      have e := texts_of hb
      have el : (texts ds).length = ds.length := by have := congrArg List.length e; simp at this; omega
      have lc2 := lc_all (it := i_rng1 (e_2 o_sub (e_call b_len (a_cons (e_var 0) (a_nil))) (e_c (.int 1)))) (g := g_name 1) (e := e_2 o_lt (e_2 o_item (e_var 0) (e_var 1)) (e_2 o_item (e_var 0) (e_2 o_add (e_var 1) (e_c (.int 1))))) (own := [1]) (σ := [some (.tup ds), none, none]) (h := h) (src := ⟨rng 0 ((texts ds).length - 1) 1, []⟩) (fun x => .bl (ltAt (texts ds) x))
        (by
          have b1 : -B62 ≤ (ds.length : Int) - 1 ∧ (ds.length : Int) - 1 < B62 := by simp only [B62]; omega
          have b2 : ((ds.length : Int) - 1).toNat = (texts ds).length - 1 := by omega
          simp [i_rng1, e_2, e_call, a_cons, a_nil, e_var, e_c, b_len, lenD, liftO_some, o_sub, b1, b2]) (fun _ => rfl) (by simp only [rng, List.length_map, List.length_range, LIM]; omega) (fun x hx acc => by
          obtain ⟨k, hk, rfl⟩ := List.mem_map.mp hx
          have hk' := List.mem_range.mp hk
          refine ⟨_, rfl, ?_⟩
          have i1 : atI ds ((0 : Int) + (k : Int) * 1) = some (.str ((texts ds).getD k [])) := by
            rw [e, texts_txts]
            simp only [Int.zero_add, Int.mul_one, atI, ixN, txts, List.length_map]
            rw [if_pos (by omega), if_pos (by omega)]
            simp [List.getD, List.getElem?_eq_getElem (show k < (texts ds).length by omega)]
          have i2 : atI ds ((0 : Int) + (k : Int) * 1 + 1) = some (.str ((texts ds).getD (k + 1) [])) := by
            rw [e, texts_txts]
            simp only [Int.zero_add, Int.mul_one, atI, ixN, txts, List.length_map]
            rw [if_pos (by omega), if_pos (by omega)]
            have : ((k : Int) + 1).toNat = k + 1 := by omega
            simp [this, List.getD, List.getElem?_eq_getElem (show k + 1 < (texts ds).length by omega)]
          simp only [Int.zero_add, Int.mul_one] at i1 i2
          simp [wipe, e_2, e_var, e_c, o_item, items, i1, i2, liftO_some, o_add, o_lt, okB, gc_bl, ltAt])
      simp only [kindsB, hb, Bool.true_and, ← rng_adj]
      simp [runDef, d_law_are_kinds, b_law_are_kinds, s_cons, s_if, t_or, t_not, t_e, truth, s_nil, s_ret, e_1, e_var, e_c, o_isa, isTy, Ty.tup, liftO_some, okB, asB, e_call, a_cons, a_nil, lc, lc2, all_new, ga, gBa, hb, Flow.then, gc_bl, -List.map_map, -List.all_map]
  | ref k =>
    obtain ⟨_, ⟨ds, e⟩ | ⟨ds, e⟩⟩ := g.unref <;> simp [runDef, d_law_are_kinds, b_law_are_kinds, s_cons, s_if, t_or, t_not, t_e, truth, s_ret, e_1, e_var, e_c, o_isa, isTy, e, Ty.lst, Ty.dic, liftO_some, okB, asB, gB, kindsB, Flow.then, gc_bl]
  | _ => simp [runDef, d_law_are_kinds, b_law_are_kinds, s_cons, s_if, t_or, t_not, t_e, truth, s_ret, e_1, e_var, e_c, o_isa, isTy, Ty.bl, Ty.int, Ty.str, Ty.lst, liftO_some, okB, asB, gB, kindsB, Flow.then, gc_bl]
end K02
end

section
set_option linter.all false
set_option autoImplicit false
set_option maxRecDepth 100000
set_option maxHeartbeats 1000000
namespace K02
open IR Lw
variable {sh : PX → Txt}
theorem gc_same {h : Heap} {x : D} : gc h (.ok x h) = .ok x h := by
  have tk : h.take h.length = h := List.take_of_length_le (Nat.le_refl _)
  simp only [gc, agree_self, tk, if_true]
  cases hp : x.pure with
  | true => simp
  | false =>
    simp only [Bool.false_eq_true, if_false]
    cases x with
    | ref r =>
      by_cases hr : h.length ≤ r
      · have : h[r]? = none := List.getElem?_eq_none hr
        simp [hr, this]
      · simp [hr]
    | _ => rfl
def inst (v : D) : LO := .ins 0 [("own_kinds", v)]
theorem kinds_pure {v : D} (hk : kindsB v = true) : v.pure = true := by
  cases v with
  | tup ds =>
    simp only [kindsB, Bool.and_eq_true] at hk
    have e := texts_of hk.1
    simp only [D.pure]
    rw [e]
    exact pures_strs _
  | _ => simp [kindsB] at hk
theorem new_ok {n W B nn : Nat} {S : List Nat} {h : Heap} {v : D} (hn : 4 ≤ n) (g : Good S h B (nn + 1) W v) (hW : W ≤ 100000) (hk : kindsB v = true) : o_new (kap (prog sh) n) 0 13 [v] h = .ok (.ref h.length) (h ++ [inst v]) := by
  obtain ⟨m, rfl⟩ : ∃ m, n = m + 2 := ⟨n - 2, by omega⟩
  have ak := kinds_gen (sh := sh) (n := m + 3) (h := h ++ [.ins 0 []]) (by omega) (g.ext Ext.app) hW
  rw [hk] at ak
  have ip : (inst v).pure = true := by simp [inst, LO.pure, kinds_pure hk]
  have gs : gc (h ++ [.ins 0 []]) (.ok .non (h ++ [inst v])) = .ok .non (h ++ [inst v]) := by
    have := gc_set0 (h := h ++ [.ins 0 []]) (v := .non) (p := h.length) (o := inst v) rfl ip
    rw [set_new] at this; exact this
  have ini : callF (prog sh) (m + 4) 13 [.ref h.length, v] (h ++ [.ins 0 []]) = .ok .non (h ++ [inst v]) := by
    rw [callF_succ _ _ _ _ _ d_Build_init rfl]
    have gs' := gs
    simp only [inst] at gs'
    simp [runDef, d_Build_init, b_Build_init, s_cons, s_if, t_not, t_e, e_call, a_cons, a_nil, e_var, ak, truth, liftO_some, gcB_self, s_nil, Flow.then, s_attr, s_attr.putF, inst, gs']
  have ini2 : callF (prog sh) (m + 2 + 2) 13 [.ref h.length, v] (h ++ [.ins 0 []]) = .ok .non (h ++ [inst v]) := ini
  simp only [o_new, ini2, Res.bind_ok, if_true]
theorem new_no {n W B nn : Nat} {S : List Nat} {h : Heap} {v : D} (hn : 4 ≤ n) (g : Good S h B (nn + 1) W v) (hW : W ≤ 100000) (hk : kindsB v = false) : o_new (kap (prog sh) n) 0 13 [v] h = .exc 0 v (h ++ [.ins 0 []]) := by
  obtain ⟨m, rfl⟩ : ∃ m, n = m + 2 := ⟨n - 2, by omega⟩
  have ak := kinds_gen (sh := sh) (n := m + 3) (h := h ++ [.ins 0 []]) (by omega) (g.ext Ext.app) hW
  rw [hk] at ak
  have gs : gc (h ++ [.ins 0 []]) (.ok v (h ++ [.ins 0 []])) = .ok v (h ++ [.ins 0 []]) := gc_same
  have ini : callF (prog sh) (m + 4) 13 [.ref h.length, v] (h ++ [.ins 0 []]) = .exc 0 v (h ++ [.ins 0 []]) := by
    rw [callF_succ _ _ _ _ _ d_Build_init rfl]
    simp [runDef, d_Build_init, b_Build_init, s_cons, s_if, t_not, t_e, e_call, a_cons, a_nil, e_var, ak, truth, liftO_some, gcB_self, s_nil, Flow.then, s_raise, gs]
  have ini2 : callF (prog sh) (m + 2 + 2) 13 [.ref h.length, v] (h ++ [.ins 0 []]) = .exc 0 v (h ++ [.ins 0 []]) := ini
  simp only [o_new, ini2, Res.bind_exc]
end K02
end

section
set_option linter.all false
set_option autoImplicit false
set_option maxRecDepth 100000
set_option maxHeartbeats 1000000
namespace K02
open IR Lw
variable {sh : PX → Txt}
theorem gc_tup {h g : Heap} {ds : List D} : ∃ g', gc h (.ok (.tup ds) (h ++ g)) = .ok (.tup ds) (h ++ g') := by
  cases hp : (D.tup ds).pure with
  | true => exact ⟨[], by rw [gc_app hp]; simp⟩
  | false => exact ⟨g, by simp [gc, agree_app, hp]⟩
def wordT (b : Bool) : Txt := if b then [107, 105, 110, 100, 115] else [110, 111, 110, 101]
theorem told_spec {n W B nn : Nat} {S : List Nat} {h : Heap} {v : D} (hn : 9 ≤ n) (g : Good S h B (nn + 1) W v) (hW : W ≤ 100000) : ∃ g', callF (prog sh) n 19 [v] h = .ok (.tup [v, .str (wordT (kindsB v))]) (h ++ g') := by
  obtain ⟨m, rfl⟩ : ∃ m, n = m + 5 + 4 := ⟨n - 9, by omega⟩
  rw [callF_succ _ _ _ _ _ d_law_told rfl]
  cases hk : kindsB v with
  | true =>
    have nw := new_ok (sh := sh) (n := m + 5) (h := h) (by omega) g hW hk
    have kd : callF (prog sh) (m + 3 + 4) 14 [.ref h.length] (h ++ [inst v]) = .ok v (h ++ [inst v]) := by
      rw [callF_succ _ _ _ _ _ d_Build_kinds rfl]
      have gs : gc (h ++ [inst v]) (.ok v (h ++ [inst v])) = .ok v (h ++ [inst v]) := gc_same
      simp only [inst] at gs
      simp [runDef, d_Build_kinds, b_Build_kinds, s_ret, e_1, e_var, o_fld, fldD, inst, liftO_some, gs]
    have kd2 : callF (prog sh) (m + 5 + 2) 14 [.ref h.length] (h ++ [inst v]) = .ok v (h ++ [inst v]) := kd
    obtain ⟨g', e⟩ := gc_tup (h := h) (g := [inst v]) (ds := [v, .str (wordT true)])
    refine ⟨g', ?_⟩
    rw [run_rt rfl (v := .tup [v, .str (wordT true)]) (h' := h ++ [inst v]) ?_]
    · exact e
    · show b_law_told (kap (prog sh) (m + 5)) _ _ = _
      unfold b_law_told
      simp only [inst] at nw kd2
      simp [s_try, s_ret, e_tup, a_cons, a_nil, e_prop, e_call, e_var, nw, clsD, kd2, noX, e_c, LIM, wordT, inst, d_law_told]
  | false =>
    have nw := new_no (sh := sh) (n := m + 5) (h := h) (by omega) g hW hk
    obtain ⟨g', e⟩ := gc_tup (h := h) (g := [.ins 0 [], .err 0 v]) (ds := [v, .str (wordT false)])
    refine ⟨g', ?_⟩
    rw [run_rt rfl (v := .tup [v, .str (wordT false)]) (h' := h ++ [.ins 0 [], .err 0 v]) ?_]
    · exact e
    · show b_law_told (kap (prog sh) (m + 5)) _ _ = _
      unfold b_law_told
      have at_ : (h ++ [LO.ins 0 [], LO.err 0 v])[h.length + 1]? = some (.err 0 v) := by simp
      have tst : sub 0 1000 = true := by decide
      simp [s_try, s_ret, e_tup, a_cons, a_nil, e_prop, e_call, e_var, nw, e_c, LIM, wordT, d_law_told, tryF, tst, Hd.done, e_1, o_errval, at_]
/-- BadKinds is of the one base, of no other -/
theorem base_spec {n W B nn : Nat} {S : List Nat} {h : Heap} {v : D} (hn : 9 ≤ n) (g : Good S h B (nn + 1) W v) (hW : W ≤ 100000) (hk : kindsB v = false) : callF (prog sh) n 20 [v] h = .ok (.bl true) h := by
  obtain ⟨m, rfl⟩ : ∃ m, n = m + 5 + 4 := ⟨n - 9, by omega⟩
  rw [callF_succ _ _ _ _ _ d_law_base rfl]
  have nw := new_no (sh := sh) (n := m + 5) (h := h) (by omega) g hW hk
  have ga : ∀ (b : Bool) (g : Heap), gc h (.ok (.bl b) (h ++ g)) = .ok (.bl b) h := fun b g => gc_app rfl
  have at_ : (h ++ [LO.ins 0 [], LO.err 0 v])[h.length + 1]? = some (.err 0 v) := by simp
  have t1 : sub 0 1001 = false := by decide
  have t2 : sub 0 1002 = true := by decide
  have t0 : sub 0 1000 = true := by decide
  rw [run_rt rfl (v := .bl true) (h' := h ++ [.ins 0 [], .err 0 v]) ?_]
  · exact ga _ _
  · show b_law_base (kap (prog sh) (m + 5)) _ _ = _
    unfold b_law_base
    simp [s_cons, s_try, s_expr, e_call, a_cons, a_nil, e_var, nw, tryF, t1, t2, Hd.done, s_ret, e_and, e_1, o_isa, isTy, at_, Ty.ise, t0, liftO_some, okB, asB, d_law_base, Flow.then]
end K02
end

section
set_option linter.all false
set_option autoImplicit false
set_option maxRecDepth 100000
set_option maxHeartbeats 1000000
namespace K02
open IR Lw
variable {sh : PX → Txt}
theorem gc_pureSt {h H : Heap} {p k j : Nat} {v : D} (hv : v.pure = true) (s0 : St p j h h) (s : St p k h H) : ∃ H', gc h (.ok v H) = .ok v H' ∧ St p k h H' := by
  obtain ⟨l0, a0, b0⟩ := s0.pot
  obtain ⟨l', hP, hl'⟩ := s.pot
  have hpl := get_lt a0
  by_cases ag : agree h H = true
  · have tk : ∀ k, k < h.length → (H.take h.length)[k]? = H[k]? := fun k hk => by rw [List.getElem?_take, if_pos hk]
    exact ⟨H.take h.length, by simp [gc, ag, hv], ⟨l', by rw [tk p hpl]; exact hP, hl'⟩, fun k o hk e0 => by rw [tk k (get_lt e0)]; exact s.ext k o hk e0⟩
  · exact ⟨H, by simp [gc, ag], s⟩
theorem abc_ascii {w : Txt} (h : Letters w) : (w.all fun c => decide (c < 128)) = true := by
  refine List.all_eq_true.mpr fun c hc => decide_eq_true ?_
  have := h c hc
  simp only [abc, List.mem_cons, List.not_mem_nil, or_false] at this
  omega
def signs : List D := [.str [65], .str [48], .str [95], .str [45], .str [32], .str [33], .str [119, 111, 114, 100, 116, 111, 111, 108, 111, 110, 103], .str [44], .str [90]]
theorem sign_of {d : D} (h : d ∈ signs) : ∃ t : Txt, d = .str t ∧ (t.all fun c => decide (c < 128)) = true ∧ 1 ≤ t.length ∧ t.length ≤ 11 := by
  simp only [signs, List.mem_cons, List.not_mem_nil, or_false] at h
  rcases h with rfl | rfl | rfl | rfl | rfl | rfl | rfl | rfl | rfl <;> exact ⟨_, rfl, by decide, by decide, by decide⟩
theorem no_name_spec {n p k : Nat} {h : Heap} (hn : 9 ≤ n) (s0 : St p k h h) (hk : k < 800000) :
    ∃ s H, callF (prog sh) n 21 [.ref p] h = .ok (.str s) H ∧ St p (k + 11) h H ∧ (s.all fun c => decide (c < 128)) = true ∧ s.length ≤ 20 := by
  obtain ⟨m, rfl⟩ : ∃ m, n = m + 5 + 4 := ⟨n - 9, by omega⟩
  rw [callF_succ _ _ _ _ _ d_law_no_name rfl]
  obtain ⟨l, a0, b0⟩ := s0.pot
  obtain ⟨w, l1, e1, hl1, ww⟩ := word_spec (P := prog sh) (n := m + 5 + 3) (by omega) a0 b0 (by omega)
  have a1 : (h.set p (.lst l1))[p]? = some (.lst l1) := get_set a0
  have a2 : (h.set p (.lst l1) ++ [.lst signs])[p]? = some (.lst l1) := get_old a1
  have hpl := get_lt a0
  have sN : (h.set p (.lst l1) ++ [.lst signs])[h.length]? = some (.lst signs) := by
    have := get_new (h := h.set p (.lst l1)) (o := .lst signs)
    simpa using this
  obtain ⟨d, l2, e2, hl2, dm⟩ := of_spec (P := prog sh) (n := m + 5 + 3) (by omega) a2 sN (by omega) hl1 (by omega) (by decide) (by decide)
  obtain ⟨t, rfl, ta, t1, t2⟩ := sign_of dm
  have st2 : St p (k + 10) h ((h.set p (LO.lst l1) ++ [LO.lst signs]).set p (LO.lst l2)) := ⟨⟨l2, get_set a2, hl2.mono (by omega)⟩, ((Ext.set (by simp)).trans Ext.app).trans (Ext.set (by simp))⟩
  obtain ⟨H1, g1, s1⟩ := gc_pureSt (v := .str (w ++ t)) rfl s0 st2
  have wa := abc_ascii ww.let_
  have wl := ww.len.2
  have xa : ((w ++ t).all fun c => decide (c < 128)) = true := by simp only [List.all_append, wa, ta, Bool.and_self]
  obtain ⟨c, H2, e3, s2, c0, c1, -, -⟩ := s1.take (P := prog sh) (n := m + 5 + 3) (u := 2) (by omega)
  have ln : w.length + t.length ≤ 16777216 := by omega
  have r1 : s_asg (e_2 o_add (e_call ((kap (prog sh) (m + 5)).fn 4) (a_cons (e_var 0) (a_nil))) (e_call ((kap (prog sh) (m + 5)).fn 1) (a_cons (e_var 0) (a_cons (e_lst (a_cons (e_c (.str [65])) (a_cons (e_c (.str [48])) (a_cons (e_c (.str [95])) (a_cons (e_c (.str [45])) (a_cons (e_c (.str [32])) (a_cons (e_c (.str [33])) (a_cons (e_c (.str [119, 111, 114, 100, 116, 111, 111, 108, 111, 110, 103])) (a_cons (e_c (.str [44])) (a_cons (e_c (.str [90])) (a_nil))))))))))) (a_nil))))) (g_name 1) [some (.ref p), none] h = .nx [some (.ref p), some (.str (w ++ t))] H1 := by
    have e2' := e2
    simp only [signs] at e2' g1
    simp [s_asg, e_2, e_call, a_cons, a_nil, e_var, e1, e_lst, e_c, newO, LIM, e2', o_add, ln, g1, g_name]
  have lw : 1 ≤ (w ++ t).length ∧ (w ++ t).length ≤ 19 := by have := ww.len.1; simp; omega
  generalize w ++ t = x at *
  have sb := cut_sub x none (some (-1))
  have sl := sb.length_le
  obtain ⟨ch, hc, hc2⟩ : ∃ ch, atI x (-1) = some ch ∧ ch ∈ x := by
    refine ⟨x[x.length - 1]'(by omega), ?_, List.getElem_mem _⟩
    have e0 : ((-1 : Int) + x.length).toNat = x.length - 1 := by omega
    simp only [atI, ixN]
    rw [if_neg (by omega), if_pos (by omega), e0]
    simp [List.getElem?_eq_getElem (show x.length - 1 < x.length by omega)]
  have fin : ∃ s, (s_ret (e_if (t_b (e_2 o_eq (e_call ((kap (prog sh) (m + 5)).fn 0) (a_cons (e_var 0) (a_cons (e_c (.int 2)) (a_nil)))) (e_c (.int 0)))) (e_2 o_add (e_2 o_item (e_var 1) (e_1 o_neg (e_c (.int 1)))) (e_slice (e_var 1) so_none (so_some (e_1 o_neg (e_c (.int 1)))))) (e_var 1))) [some (.ref p), some (.str x)] H1 = .rt (.str s) H2 ∧ (s.all fun c => decide (c < 128)) = true ∧ s.length ≤ 20 := by
    have lx : x.length ≤ 16777216 := by omega
    have l1 : 1 + (cut x none (some (-1))).length ≤ 16777216 := by omega
    by_cases hz : c = 0
    · refine ⟨ch :: cut x none (some (-1)), ?_, ?_, by simp only [List.length_cons]; omega⟩
      · simp [s_ret, e_if, t_b, e_2, e_1, e_call, a_cons, a_nil, e_var, e_c, e3, eq_int, hz, asB, liftO_some, o_item, o_neg, LIM, lx, hc, e_slice, so_none, so_some, asI, o_slice, o_add, l1]
      · have h1 : ch < 128 := of_decide_eq_true (List.all_eq_true.mp xa ch hc2)
        simp only [List.all_cons, decide_eq_true h1, Bool.true_and]
        exact all_sub xa fun c hc => sb.subset hc
    · refine ⟨x, ?_, xa, by omega⟩
      simp [s_ret, e_if, t_b, e_2, e_1, e_call, a_cons, a_nil, e_var, e_c, e3, eq_int, hz, asB, liftO_some]
  obtain ⟨s, ef, sa, sl2⟩ := fin
  obtain ⟨H3, g3, s3⟩ := gc_pureSt (v := .str s) rfl s0 s2
  refine ⟨s, H3, ?_, s3, sa, sl2⟩
  rw [run_rt rfl (v := .str s) (h' := H2) ?_]
  · exact g3
  · show b_law_no_name (kap (prog sh) (m + 5)) _ _ = _
    unfold b_law_no_name
    rw [s_cons, show s_asg _ (g_name 1) ([D.ref p].map some ++ List.replicate (d_law_no_name.n - d_law_no_name.np) none) h = _ from r1]
    simp only [Flow.then]
    exact ef
end K02
end

section
set_option linter.all false
set_option autoImplicit false
set_option maxRecDepth 100000
set_option maxHeartbeats 1000000
namespace K02
open IR Lw
variable {sh : PX → Txt}
/-- a text among some -/
def among (l : List Txt) : D → Bool
  | .str s => decide (s ∈ l)
  | _ => false
theorem eq_other {n W B nn b : Nat} {S : List Nat} {h : Heap} {v y : D} (hn : 4 ≤ n) (g : Good S h B nn W y) : callF (prog sh) n 15 [.ref b, y] h = .ok (.bl false) h := by
  obtain ⟨m, rfl⟩ : ∃ m, n = m + 4 := ⟨n - 4, by omega⟩
  rw [callF_succ _ _ _ _ _ d_Build_eq rfl]
  cases y with
  | ref k =>
    obtain ⟨_, ⟨ds, e⟩ | ⟨ds, e⟩⟩ := g.unref <;> simp [runDef, d_Build_eq, b_Build_eq, s_ret, e_and, e_1, e_var, o_isa, isTy, e, Ty.lst, Ty.dic, liftO_some, okB, asB, gc_bl]
  | _ => simp [runDef, d_Build_eq, b_Build_eq, s_ret, e_and, e_1, e_var, o_isa, isTy, Ty.bl, Ty.int, Ty.str, Ty.tup, Ty.lst, liftO_some, okB, asB, gc_bl]
theorem eq_same {n a b : Nat} {h : Heap} {l : List Txt} (hn : 4 ≤ n) (ha : h[a]? = some (inst (.tup (txts l)))) (hb : h[b]? = some (inst (.tup (txts l)))) : callF (prog sh) n 15 [.ref a, .ref b] h = .ok (.bl true) h := by
  obtain ⟨m, rfl⟩ : ∃ m, n = m + 4 := ⟨n - 4, by omega⟩
  rw [callF_succ _ _ _ _ _ d_Build_eq rfl]
  have e1 : rd h DEEP (.tup (txts l)) = some (.tuple (l.map PD.str)) := by
    show Option.map PD.tuple (mapO (rd h (58 + 1)) (txts l)) = _
    rw [rd_txts]
    rfl
  have e2 : o_eq (.tup (txts l)) (.tup (txts l)) h = .ok (.bl true) h := by
    simp only [o_eq, eqD, e1, PD.eqv_refl, liftO_some, Res.bind_ok, okB]
  have ts : sub 0 0 = true := by decide
  simp only [inst] at ha hb
  simp [runDef, d_Build_eq, b_Build_eq, s_ret, e_and, e_1, e_2, e_var, o_isa, isTy, ha, hb, Ty.is, ts, liftO_some, okB, asB, o_fld, fldD, e2, gc_bl]
theorem contains_spec {n W B nn b : Nat} {S : List Nat} {h : Heap} {l : List Txt} {y : D} (hn : 4 ≤ n) (hb : h[b]? = some (inst (.tup (txts l)))) (g : Good S h B nn W y) : callF (prog sh) n 16 [.ref b, y] h = .ok (.bl (among l y)) h := by
  obtain ⟨m, rfl⟩ : ∃ m, n = m + 4 := ⟨n - 4, by omega⟩
  rw [callF_succ _ _ _ _ _ d_Build_contains rfl]
  simp only [inst] at hb
  cases y with
  | str s =>
    have e : isIn h (.str s) (.tup (txts l)) = some (decide (s ∈ l)) := isIn_tup
    simp [runDef, d_Build_contains, b_Build_contains, s_ret, e_and, e_1, e_2, e_var, o_isa, isTy, Ty.str, liftO_some, okB, asB, o_fld, fldD, hb, o_in, e, among, gc_bl]
  | ref k =>
    obtain ⟨_, ⟨ds, e⟩ | ⟨ds, e⟩⟩ := g.unref <;> simp [runDef, d_Build_contains, b_Build_contains, s_ret, e_and, e_1, e_var, o_isa, isTy, e, Ty.lst, Ty.dic, liftO_some, okB, asB, among, gc_bl]
  | _ => simp [runDef, d_Build_contains, b_Build_contains, s_ret, e_and, e_1, e_var, o_isa, isTy, Ty.bl, Ty.int, Ty.tup, Ty.lst, liftO_some, okB, asB, among, gc_bl]
end K02
end

section
set_option linter.all false
set_option autoImplicit false
set_option maxRecDepth 100000
set_option maxHeartbeats 1000000
namespace K02
open IR Lw
variable {sh : PX → Txt}
theorem set_self {h : Heap} {p : Nat} {o : LO} (e : h[p]? = some o) : h.set p o = h := by
  obtain ⟨hl, rfl⟩ := List.getElem?_eq_some_iff.mp e
  simp
theorem set_app {h g : Heap} {p : Nat} {o : LO} (hl : p < h.length) : (h ++ g).set p o = h.set p o ++ g := by
  rw [List.set_append_left _ _ hl]
theorem gc_new_set {h g : Heap} {o q : LO} {r p : Nat} (hq : q.pure = true) (hr : (h.set p q ++ g)[r]? = some o) (hl : h.length ≤ r) (ho : o.pure = true) : gc h (.ok (.ref r) (h.set p q ++ g)) = .ok (.ref h.length) (h.set p q ++ [o]) := by
  have t : (h.set p q ++ g).take h.length = h.set p q := by
    rw [List.take_append_of_le_length (by simp)]
    rw [List.take_of_length_le (by simp)]
  simp [gc, agree_set h g p q hq, D.pure, hl, hr, ho, t]
/-- the names -/
theorem names_spec {m p : Nat} {h : Heap} {l : List D} (hp : h[p]? = some (.lst l)) (hl : Pot 0 l) :
    ∃ names l', s_asg (e_call (callF (prog sh) (m + 8) 3) (a_cons (e_lc (i_rng1 (e_call (callF (prog sh) (m + 8) 0) (a_cons (e_var 0) (a_cons (e_c (.int 7)) (a_nil))))) (g_name 12) (t_yes) (e_call (callF (prog sh) (m + 8) 4) (a_cons (e_var 0) (a_nil))) [12]) (a_nil))) (g_name 1) [some (.ref p), none, none, none, none, none, none, none, none, none, none, none, none] h =
      .nx [some (.ref p), some (.ref h.length), none, none, none, none, none, none, none, none, none, none, none] (h.set p (.lst l') ++ [.lst (txts names)]) ∧ Pot 64 l' ∧ (∀ w ∈ names, Word w) ∧ Asc names ∧ names.length ≤ 6 := by
  have pl := get_lt hp
  obtain ⟨d, l0, e0, hl0, d0, d1⟩ := take_spec (P := prog sh) (n := m + 8) (u := 7) (by omega) hp hl
  have p0 : (h.set p (.lst l0))[p]? = some (.lst l0) := get_set hp
  obtain ⟨h', acc, ⟨ws, l1, rfl, wl, ww, hl1, rfl⟩, lc⟩ := lc_inv (it := fun _ x => .ok ⟨rng 0 d.toNat 1, []⟩ x) (g := g_name 12) (t := t_yes) (e := e_call (callF (prog sh) (m + 8) 4) (a_cons (e_var 0) (a_nil))) (own := [12]) (src := ⟨rng 0 d.toNat 1, []⟩) (σ := [some (D.ref p), none, none, none, none, none, none, none, none, none, none, none, none]) (h := h.set p (.lst l0))
    (fun i h' acc => ∃ ws l1, acc = txts ws ∧ ws.length = i ∧ (∀ w ∈ ws, Word w) ∧ Pot (1 + 9 * i) l1 ∧ h' = h.set p (.lst l1))
    rfl (fun i h' acc ⟨ws, l1, e1, wl, _, _, e2⟩ => by subst e1 e2; exact ⟨by simp, by simp [wl], rfl⟩) (by simp only [rng, List.length_map, List.length_range, LIM]; omega) ⟨[], l0, rfl, rfl, by simp, hl0, rfl⟩
    (fun i x h' acc hx ⟨ws, l1, e1, wl, ww, hl1, e2⟩ => by
      subst e1 e2
      have hi : i < 7 := by have := (List.getElem?_eq_some_iff.mp hx).1; simp only [rng, List.length_map, List.length_range] at this; omega
      have at_ : (h.set p (.lst l1) ++ [.lst (txts ws)])[p]? = some (.lst l1) := get_old (get_set hp)
      obtain ⟨w, l2, e, hl2, hw⟩ := word_spec (P := prog sh) (n := m + 8) (by omega) at_ hl1 (by omega)
      rw [set_app (by simpa using pl), set_set] at e
      refine ⟨_, rfl, true, _, gcB_self, by simp, fun _ => ⟨.str w, h.set p (.lst l2), ?_, by simp, ws ++ [w], l2, by simp, by simp [wl], ?_, hl2.mono (by omega), rfl⟩⟩
      · have ev : e_call (callF (prog sh) (m + 8) 4) (a_cons (e_var 0) (a_nil)) ((wipe [some (D.ref p), none, none, none, none, none, none, none, none, none, none, none, none] [12]).set 12 (some x)) (h.set p (.lst l1) ++ [.lst (txts ws)]) = .ok (.str w) (h.set p (.lst l2) ++ [.lst (txts ws)]) := by
          simp [wipe, e_call, a_cons, a_nil, e_var, e]
        rw [ev]
        have := gc_any (h := h.set p (.lst l1) ++ [.lst (txts ws)]) (x := .str w) (p := p) (o := .lst l2) hl2.pure
        rw [set_app (by simpa using pl), set_set] at this
        exact this
      · intro z hz
        rcases List.mem_append.mp hz with q | q
        · exact ww z q
        · rw [List.mem_singleton] at q; subst q; exact hw)
  have ld : (Src.mk (rng 0 d.toNat 1) []).items.length = d.toNat := by simp [rng]
  rw [ld] at wl hl1
  obtain ⟨out, eo, oa, om, ol⟩ := ordered_spec (P := prog sh) (n := m + 8) (r := h.length) (h := h.set p (.lst l1) ++ [.lst (txts ws)]) (rows := ws) (by omega) (by have := get_new (h := h.set p (.lst l1)) (o := .lst (txts ws)); simpa using this) (by omega)
  have it : i_rng1 (e_call (callF (prog sh) (m + 8) 0) (a_cons (e_var 0) (a_cons (e_c (.int 7)) (a_nil)))) [some (D.ref p), none, none, none, none, none, none, none, none, none, none, none, none] h = .ok ⟨rng 0 d.toNat 1, []⟩ (h.set p (.lst l0)) := by
    have : -B62 ≤ d ∧ d < B62 := by simp only [B62]; omega
    simp [i_rng1, e_call, a_cons, a_nil, e_var, e_c, e0, this]
  refine ⟨out, l1, ?_, hl1.mono (by omega), fun w hw => ww w ((om w).mp hw), oa, by omega⟩
  have g : gc h (.ok (.ref (h.set p (.lst l1) ++ [LO.lst (txts ws)]).length) (h.set p (.lst l1) ++ [.lst (txts ws)] ++ [.lst (txts out)])) = .ok (.ref h.length) (h.set p (.lst l1) ++ [.lst (txts out)]) := by
    rw [List.append_assoc]
    exact gc_new_set hl1.pure (by rw [← List.append_assoc]; exact get_new) (by simp) (pures_strs out)
  have lc' : e_lc (i_rng1 (e_call (callF (prog sh) (m + 8) 0) (a_cons (e_var 0) (a_cons (e_c (.int 7)) (a_nil))))) (g_name 12) (t_yes) (e_call (callF (prog sh) (m + 8) 4) (a_cons (e_var 0) (a_nil))) [12] [some (D.ref p), none, none, none, none, none, none, none, none, none, none, none, none] h = .ok (.ref h.length) (h.set p (.lst l1) ++ [.lst (txts ws)]) := by
    simp only [e_lc, it, Res.bind_ok]
    simp only [e_lc, Res.bind_ok] at lc
    simpa using lc
  simp only [s_asg, e_call, a_cons, a_nil] at lc' ⊢
  rw [lc']
  simp only [Res.bind_ok, eo, g, Res.to_ok, g_name, onlyNx_nx, List.set_cons_succ, List.set_cons_zero]
end K02
end

section
set_option linter.all false
set_option autoImplicit false
set_option maxRecDepth 100000
set_option maxHeartbeats 1000000
namespace K02
open IR Lw
variable {sh : PX → Txt}
def body (κ : Kap) : SS := s_cons (s_asg (e_if (t_e (e_call (κ.fn 18) (a_cons (e_var 7) (a_nil)))) (e_tup (a_cons (e_var 7) (a_cons (e_c (.str [107, 105, 110, 100, 115])) (a_nil)))) (e_tup (a_cons (e_var 7) (a_cons (e_c (.str [110, 111, 110, 101])) (a_nil))))) (g_name 10)) (
  s_cons (s_if (t_b (e_2 o_ne (e_call (b_repr κ) (a_cons (e_call (κ.fn 19) (a_cons (e_var 7) (a_nil))) (a_nil))) (e_call (b_repr κ) (a_cons (e_var 10) (a_nil))))) (s_ret (e_c (.bl false))) (s_nil)) (
  s_if (t_and (t_b (e_2 o_eq (e_2 o_item (e_var 10) (e_c (.int 1))) (e_c (.str [110, 111, 110, 101])))) (t_not (t_e (e_call (κ.fn 20) (a_cons (e_var 7) (a_nil)))))) (s_ret (e_c (.bl false))) (s_nil)))
theorem body_spec {m p W B nn : Nat} {h : Heap} {x : D} {x1 x2 x3 x4 x5 x6 x8 x9 x10 x11 x12 : Option D} (g : Good [p] h B (nn + 1) W x) (hn : nn ≤ 40) (hB : B ≤ 10 ^ 500) (hW : W ≤ 7000) :
    body (kap (prog sh) (m + 8)) [some (.ref p), x1, x2, x3, x4, x5, x6, some x, x8, x9, x10, x11, x12] h = .nx [some (.ref p), x1, x2, x3, x4, x5, x6, some x, x8, x9, some (.tup [x, .str (wordT (kindsB x))]), x11, x12] h := by
  have k1 := law_kinds_gen (sh := sh) (n := m + 8 + 3) (h := h) (by omega) g (by omega)
  obtain ⟨g', tl⟩ := told_spec (sh := sh) (n := m + 8 + 3) (h := h) (by omega) g (by omega)
  have gw : (Good [p] h B (nn + 2) (W + 20) (.tup [x, .str (wordT (kindsB x))])) := by
    refine (Good.tup (.cons g (.cons (W := 5) (Good.str (n := nn) ?_ ?_) .nil))).mono (Nat.le_refl _) (Nat.le_refl _) (by omega)
    · cases kindsB x <;> decide
    · cases kindsB x <;> decide
  obtain ⟨q, rq⟩ := gw.repr (by omega) hB (by omega)
  have r1 := rq (kap (prog sh) (m + 8)) (h ++ g') Ext.app
  have gs : ∀ y : D, gc h (.ok y h) = .ok y h := fun y => gc_same
  have gB : ∀ b : Bool, gcB h (.ok b h) = .ok b h := fun b => gcB_self
  have gBa : ∀ (b : Bool), gcB h (.ok b (h ++ g')) = .ok b h := fun b => gcB_app
  unfold body
  cases hk : kindsB x with
  | true =>
    rw [hk] at k1 tl r1
    simp only [wordT, if_true] at tl r1
    have k1' : callF (prog sh) (m + 11) 18 [x] h = .ok (.bl true) h := k1
    have tl' : callF (prog sh) (m + 11) 19 [x] h = .ok (.tup [x, .str [107, 105, 110, 100, 115]]) (h ++ g') := tl
    simp [s_cons, s_asg, e_if, t_e, e_call, a_cons, a_nil, e_var, k1', truth, liftO_some, e_tup, e_c, LIM, gs, g_name, Flow.then, s_if, t_b, e_2, tl', r1, ne_txt, asB, gBa, s_nil, t_and, o_item, items, atI, ixN, eq_txt, gB, wordT]
  | false =>
    have bs := base_spec (sh := sh) (n := m + 8 + 3) (h := h) (by omega) g (by omega) hk
    rw [hk] at k1 tl r1
    simp only [wordT, Bool.false_eq_true, if_false] at tl r1
    have k1' : callF (prog sh) (m + 11) 18 [x] h = .ok (.bl false) h := k1
    have tl' : callF (prog sh) (m + 11) 19 [x] h = .ok (.tup [x, .str [110, 111, 110, 101]]) (h ++ g') := tl
    have bs' : callF (prog sh) (m + 11) 20 [x] h = .ok (.bl true) h := bs
    simp [s_cons, s_asg, e_if, t_e, e_call, a_cons, a_nil, e_var, k1', truth, liftO_some, e_tup, e_c, LIM, gs, g_name, Flow.then, s_if, t_b, e_2, tl', r1, ne_txt, asB, gBa, s_nil, t_and, t_not, o_item, items, atI, ixN, eq_txt, gB, wordT, bs']
theorem loop_spec {m p L W B nn : Nat} {h : Heap} {it : SI} {ds : List D} {x1 x2 x3 x4 x5 x6 x8 x9 x11 x12 : Option D} {h0 : Heap} (hi : it [some (.ref p), x1, x2, x3, x4, x5, x6, none, x8, x9, none, x11, x12] h0 = .ok ⟨ds, [(L, .lst ds)]⟩ h) (hL : h[L]? = some (.lst ds)) (g : ∀ x ∈ ds, Good [p] h B (nn + 1) W x) (hn : nn ≤ 40) (hB : B ≤ 10 ^ 500) (hW : W ≤ 7000) :
    ∃ y7 y10, s_for it (g_name 7) (body (kap (prog sh) (m + 8))) [some (.ref p), x1, x2, x3, x4, x5, x6, none, x8, x9, none, x11, x12] h0 = .nx [some (.ref p), x1, x2, x3, x4, x5, x6, y7, x8, x9, y10, x11, x12] h := by
  obtain ⟨σ', h', ⟨y7, y10, e1, e2⟩, r⟩ := for_inv (it := it) (g := g_name 7) (body := body (kap (prog sh) (m + 8))) (src := ⟨ds, [(L, .lst ds)]⟩) (h := h0) (h1 := h)
    (fun _ σ h' => ∃ y7 y10, σ = [some (.ref p), x1, x2, x3, x4, x5, x6, y7, x8, x9, y10, x11, x12] ∧ h' = h) hi (fun i σ h' ⟨_, _, _, e⟩ => by subst e; simp [Src.ok, hL]) ⟨none, none, rfl, rfl⟩
    (fun i x σ h' hx ⟨y7, y10, e1, e2⟩ => by
      subst e1 e2
      exact ⟨_, rfl, _, _, body_spec (sh := sh) (m := m) (g x (List.mem_of_getElem? hx)) hn hB hW, some x, _, rfl, rfl⟩)
  subst e1 e2
  exact ⟨y7, y10, r⟩
end K02
end

section
set_option linter.all false
set_option autoImplicit false
set_option maxRecDepth 100000
set_option maxHeartbeats 1000000
namespace K02
open IR Lw
variable {sh : PX → Txt}
theorem seq {f g : SS} {σ σ' : Env} {h h' : Heap} (e : f σ h = .nx σ' h') : s_cons f g σ h = g σ' h' := by
  simp only [s_cons, e, Flow.then]
theorem gc_ex {h H : Heap} {b : Bool} : ∃ h', gc h (.ok (.bl b) H) = .ok (.bl b) h' := by
  by_cases g : agree h H = true
  · exact ⟨H.take h.length, by simp [gc, g, D.pure]⟩
  · exact ⟨H, by simp [gc, g]⟩
theorem gcB_ex {h H : Heap} {b : Bool} : ∃ h', gcB h (.ok b H) = .ok b h' := by
  by_cases g : agree h H = true
  · exact ⟨H.take h.length, by simp [gcB, g]⟩
  · exact ⟨H, by simp [gcB, g]⟩
theorem gcB_St {h H : Heap} {p k j : Nat} {b : Bool} (s0 : St p j h h) (s : St p k h H) : ∃ H', gcB h (.ok b H) = .ok b H' ∧ St p k h H' := by
  obtain ⟨l0, a0, b0⟩ := s0.pot
  obtain ⟨l', hP, hl'⟩ := s.pot
  have hpl := get_lt a0
  by_cases ag : agree h H = true
  · have tk : ∀ k, k < h.length → (H.take h.length)[k]? = H[k]? := fun k hk => by rw [List.getElem?_take, if_pos hk]
    exact ⟨H.take h.length, by simp [gcB, ag], ⟨l', by rw [tk p hpl]; exact hP, hl'⟩, fun k o hk e0 => by rw [tk k (get_lt e0)]; exact s.ext k o hk e0⟩
  · exact ⟨H, by simp [gcB, ag], s⟩
theorem gc_lst {h H : Heap} {p k j B n W r : Nat} {ds : List D} (s0 : St p j h h) (s : St p k h H) (hr : h.length ≤ r) (er : H[r]? = some (.lst ds)) (gd : Goods [p] H B n W ds) :
    ∃ r' H', gc h (.ok (.ref r) H) = .ok (.ref r') H' ∧ St p k h H' ∧ h.length ≤ r' ∧ H'[r']? = some (.lst ds) ∧ Goods [p] H' B n W ds := by
  obtain ⟨l0, a0, b0⟩ := s0.pot
  obtain ⟨l', hP, hl'⟩ := s.pot
  have hpl := get_lt a0
  have e := s.ext
  have ext2 : ∀ H' : Heap, (∀ k, k < h.length → H'[k]? = H[k]?) → St p k h H' := fun H' c => ⟨⟨l', by rw [c p hpl]; exact hP, hl'⟩, fun k o hk e0 => by
    rw [c k (get_lt e0)]; exact e k o hk e0⟩
  by_cases ag : agree h H = true
  · have lt : (H.take h.length).length = h.length := by have := Lw.agree_le ag; rw [List.length_take]; omega
    by_cases po : (LO.lst ds).pure = true
    · have tk : ∀ k, k < h.length → (H.take h.length)[k]? = H[k]? := fun k hk => by rw [List.getElem?_take, if_pos hk]
      have t2 : ∀ k, k < h.length → (H.take h.length ++ [LO.lst ds])[k]? = H[k]? := fun k hk => by
        rw [List.getElem?_append_left (by omega), tk k hk]
      refine ⟨h.length, H.take h.length ++ [.lst ds], by simp [gc, ag, D.pure, hr, er, po], ext2 _ t2, Nat.le_refl _, ?_, gd.pure po⟩
      have z := get_new (h := H.take h.length) (o := .lst ds)
      rw [lt] at z; exact z
    · have po' : (LO.lst ds).pure = false := by simpa using po
      exact ⟨r, H, by simp [gc, ag, D.pure, hr, er, po'], s, hr, er, gd⟩
  · exact ⟨r, H, by simp [gc, ag], s, hr, er, gd⟩
theorem adj_asc : ∀ {l : List Txt}, Asc l → adj l = true
  | [], _ => rfl
  | [a], _ => rfl
  | a :: b :: r, h => by
    rw [Asc, List.pairwise_cons] at h
    simp only [adj, adj_asc h.2, Bool.and_true, ltT]
    exact decide_eq_true (h.1 b (by simp))
theorem texts_txts' : ∀ l : List Txt, texts (txts l) = l
  | [] => rfl
  | a :: r => by
    show a :: texts (txts r) = a :: r
    rw [texts_txts' r]
theorem nameT_word {w : Txt} (h : Word w) : nameT w = true := by
  simp only [nameT, decide_eq_true h.len.1, decide_eq_true h.len.2, decide_eq_false h.ok, Bool.not_false, Bool.true_and]
  exact List.all_eq_true.mpr fun c hc => decide_eq_true (h.let_ c hc)
theorem kinds_names {l : List Txt} (a : Asc l) (w : ∀ x ∈ l, Word x) : kindsB (.tup (txts l)) = true := by
  simp only [kindsB, texts_txts', adj_asc a, Bool.and_true, txts, List.all_map]
  exact List.all_eq_true.mpr fun x hx => nameT_word (w x hx)
theorem plain_names {l : List Txt} (w : ∀ x ∈ l, Word x) : Plain l := fun x hx => ⟨abc_ascii (w x hx).let_, (w x hx).len.2⟩
/-! lists of bools, written out -/
theorem rd_bools {h : Heap} {n : Nat} : ∀ bs : List Bool, mapO (rdX h (n + 1)) (bs.map .bl) = some (bs.map PX.bool)
  | [] => rfl
  | b :: r => by
    have b1 : rdX h (n + 1) (.bl b) = some (.bool b) := rfl
    simp only [List.map_cons, mapO, b1, rd_bools r]
theorem upto_bools {B : Nat} : ∀ bs : List Bool, PX.uptos B (bs.map .bool) = true
  | [] => by simp [PX.uptos]
  | b :: r => by simp [PX.uptos, PX.upto, upto_bools r]
theorem wt_bools : ∀ bs : List Bool, PX.wts (bs.map .bool) = bs.length
  | [] => by simp [PX.wts]
  | b :: r => by simp [PX.wts, PX.wt, wt_bools r]; omega
theorem repr_bools {κ : Kap} {H : Heap} {r : Nat} {bs : List Bool} (e : H[r]? = some (.lst (bs.map .bl))) (hl : bs.length ≤ 8000) : b_repr κ [.ref r] H = .ok (.str (κ.shown (.list (bs.map .bool)))) H := by
  have rd : rdX H DEEP (.ref r) = some (.list (bs.map .bool)) := by
    show rdX H (58 + 1 + 1) (.ref r) = _
    rw [rdX, e]
    simp only [rd_bools, Option.map_some]
  have f : (PX.list (bs.map PX.bool)).fits = true := by
    unfold PX.fits
    rw [show (PX.list (bs.map PX.bool)).upto (10 ^ 500) = true by simp only [PX.upto, upto_bools]]
    rw [show (PX.list (bs.map PX.bool)).wt = bs.length by simp only [PX.wt, wt_bools], decide_eq_true hl]
    simp
  simp only [b_repr, rd, liftO_some, Res.bind_ok, f, if_true]
/-- .. with a value among them, wherever it is still there -/
theorem repr_three {S : List Nat} {h : Heap} {B n W : Nat} {d : D} (a : Good S h B n W d) (hn : n ≤ 50) (hB : B ≤ 10 ^ 500) (hW : W ≤ 7000) : ∃ q, ∀ (κ : Kap) (H : Heap) (r : Nat), Ext S h H → H[r]? = some (.lst [.bl true, .bl false, d]) → b_repr κ [.ref r] H = .ok (.str (κ.shown q)) H := by
  obtain ⟨q, e1, e2, e3⟩ := a
  refine ⟨.list [.bool true, .bool false, q], fun κ H r ext er => ?_⟩
  have rd : rdX H 59 d = some q := by
    rw [rdX_S]
    refine rdS_mono (fun k o e => ?_) e1 59 (by omega)
    have e' := ext.vw k o e
    unfold vw at e'
    split at e'
    · cases e'
    · exact e'
  have rd2 : rdX H DEEP (.ref r) = some (.list [.bool true, .bool false, q]) := by
    show rdX H (59 + 1) (.ref r) = _
    rw [rdX, er]
    have b1 : ∀ b : Bool, rdX H 59 (.bl b) = some (.bool b) := fun b => rfl
    simp only [mapO, b1, rd, Option.map_some]
  have f : (PX.list [.bool true, .bool false, q]).fits = true := by
    unfold PX.fits
    have u : (PX.list [.bool true, .bool false, q]).upto (10 ^ 500) = true := by simp only [PX.upto, PX.uptos, fine_upto hB q e2, Bool.and_true]
    have w : (PX.list [.bool true, .bool false, q]).wt ≤ 8000 := by simp only [PX.wt, PX.wts]; omega
    rw [u, decide_eq_true w]
    simp
  simp only [b_repr, rd2, liftO_some, Res.bind_ok, f, if_true]
end K02
end

section
set_option linter.all false
set_option autoImplicit false
set_option maxRecDepth 100000
set_option maxHeartbeats 1000000
namespace K02
open IR Lw
variable {sh : PX → Txt}
theorem _root_.Lw.St.at {p k L : Nat} {h H : Heap} {o : LO} (s : St p k h H) (hp : L ≠ p) (e : h[L]? = some o) : H[L]? = some o := s.ext L o (by simpa using hp) e
theorem _root_.Lw.St.now {p k : Nat} {h H : Heap} (s : St p k h H) : St p k H H := ⟨s.pot, Ext.refl⟩
theorem st2 {m p L k : Nat} {h : Heap} {names : List Txt} (s0 : St p k h h) (hk : k < 900000) (hL : h[L]? = some (.lst (txts names))) (n6 : names.length ≤ 6) :
    ∃ d H, s_par 2 3 (e_call b_tuple (a_cons (e_var 1) (a_nil))) (e_call ((kap (prog sh) (m + 8)).fn 0) (a_cons (e_var 0) (a_cons (e_2 o_add (e_call b_len (a_cons (e_var 1) (a_nil))) (e_c (.int 1))) (a_nil)))) [some (.ref p), some (.ref L), none, none, none, none, none, none, none, none, none, none, none] h =
      .nx [some (.ref p), some (.ref L), some (.tup (txts names)), some (.int d), none, none, none, none, none, none, none, none, none] H ∧ St p (k + 1) h H ∧ 0 ≤ d ∧ d ≤ 6 := by
  obtain ⟨d, H, e, s, d0, d1, -, -⟩ := s0.take (P := prog sh) (n := m + 8 + 3) (u := (names.length : Int) + 1) (by omega)
  refine ⟨d, H, ?_, s, d0, by omega⟩
  simp [s_par, e_call, a_cons, a_nil, e_var, b_tuple, items, hL, liftO_some, e_2, b_len, lenD, e_c, o_add, e]
theorem goods_cat {S : List Nat} {H : Heap} {B n : Nat} {names : List Txt} {s : Txt} {xs zs : List D} (pl : Plain names) (few : names.length ≤ 20) (hs : (s.all fun c => decide (c < 128)) = true) (ls : s.length ≤ 20) (hx : xs.Sublist (txts names)) (hz : zs.Sublist (txts names)) :
    Good S H B (n + 2) 500 (.tup (xs ++ [.str s] ++ zs)) := by
  have g := goods_txts (S := S) (h := H) (B := B) (n := n) pl
  have g1 := g.sub hx
  have g2 := g.sub hz
  exact Good.tup (((g1.append (.cons (.str hs ls) .nil)).append g2).mono (Nat.le_refl _) (Nat.le_refl _) (by omega))

theorem st3 {m p L k : Nat} {h : Heap} {names : List Txt} {i : Int} (s0 : St p k h h) (hk : k < 700000) (pl : Plain names) (few : names.length ≤ 20) :
    ∃ v H, s_asg (e_2 o_add (e_2 o_add (e_slice (e_var 2) so_none (so_some (e_var 3))) (e_tup (a_cons (e_call ((kap (prog sh) (m + 12)).fn 21) (a_cons (e_var 0) (a_nil))) (a_nil)))) (e_slice (e_var 2) (so_some (e_var 3)) so_none)) (g_name 4) [some (.ref p), some (.ref L), some (.tup (txts names)), some (.int i), none, none, none, none, none, none, none, none, none] h =
      .nx [some (.ref p), some (.ref L), some (.tup (txts names)), some (.int i), some v, none, none, none, none, none, none, none, none] H ∧ St p (k + 11) h H ∧ (∀ B, Good [p] H B 9 500 v) := by
  obtain ⟨s, H1, e, s1, sa, sl⟩ := no_name_spec (sh := sh) (n := m + 12 + 3) (by omega) s0 (by omega)
  have cs : ∀ lo hi, (cut (txts names) lo hi).Sublist (txts names) := cut_sub _
  have ln : (txts names).length = names.length := by simp
  have lc : ∀ lo hi, (cut (txts names) lo hi).length ≤ 20 := fun lo hi => by have := (cs lo hi).length_le; omega
  have lim1 : ∀ lo hi, (cut (txts names) lo hi).length + 1 ≤ 16777216 := fun a b => by have := lc a b; omega
  have lim3 : ∀ lo hi lo2 hi2, (cut (txts names) lo hi).length + 1 + (cut (txts names) lo2 hi2).length ≤ 16777216 := fun a b c d => by have := lc a b; have := lc c d; omega
  have good : ∀ H B, Good [p] H B 9 500 (.tup (cut (txts names) none (some i) ++ [.str s] ++ cut (txts names) (some i) none)) := fun H B => goods_cat (n := 7) pl few sa sl (cs _ _) (cs _ _)
  have pv : (D.tup (cut (txts names) none (some i) ++ [.str s] ++ cut (txts names) (some i) none)).pure = true := by
    simp only [D.pure]
    have sub_pure : ∀ {xs ys : List D}, xs.Sublist ys → D.pures ys = true → D.pures xs = true := fun {xs ys} hs hy => by
      induction hs with
      | slnil => rfl
      | cons a _ ih => simp only [D.pures, Bool.and_eq_true] at hy; exact ih hy.2
      | cons_cons a _ ih => simp only [D.pures, Bool.and_eq_true] at hy ⊢; exact ⟨hy.1, ih hy.2⟩
    have app_pure : ∀ {xs ys : List D}, D.pures xs = true → D.pures ys = true → D.pures (xs ++ ys) = true := fun {xs ys} hx hy => by
      induction xs with
      | nil => exact hy
      | cons a r ih => simp only [List.cons_append, D.pures, Bool.and_eq_true] at hx ⊢; exact ⟨hx.1, ih hx.2⟩
    exact app_pure (app_pure (sub_pure (cs _ _) (pures_strs names)) rfl) (sub_pure (cs _ _) (pures_strs names))
  obtain ⟨H2, g2, s2⟩ := gc_pureSt pv s0 s1
  refine ⟨_, H2, ?_, s2, fun B => good _ B⟩
  simp only [List.append_assoc, List.cons_append, List.nil_append] at g2
  simp [s_asg, e_call, a_cons, a_nil, e_var, e_2, e_slice, so_none, so_some, asI, liftO_some, o_slice, e_tup, LIM, e, o_add, lim1, lim3, g2, g_name]
theorem st4 {m p L k B : Nat} {h : Heap} {names : List Txt} {x3 x4 : Option D} (s0 : St p k h h) (hk : k < 700000) (pl : Plain names) (few : names.length ≤ 20) (hB : 100000000000000000000 < B) (hB2 : B ≤ 10 ^ 500) :
    ∃ d5 d6 H, s_par 5 6 (e_call ((kap (prog sh) (m + 25)).fn 5) (a_cons (e_var 0) (a_nil))) (e_call ((kap (prog sh) (m + 25)).fn 6) (a_cons (e_var 0) (a_cons (e_var 2) (a_nil)))) [some (.ref p), some (.ref L), some (.tup (txts names)), x3, x4, none, none, none, none, none, none, none, none] h =
      .nx [some (.ref p), some (.ref L), some (.tup (txts names)), x3, x4, some d5, some d6, none, none, none, none, none, none] H ∧ St p (k + 5) h H ∧ Good [p] H B 8 600 d5 ∧ Good [p] H B 10 1200 d6 := by
  obtain ⟨d5, H1, e1, s1, s1', n1, g1⟩ := s0.odd (P := prog sh) (n := m + 25 + 3) (B := B) (by omega) hB
  obtain ⟨d6, H2, e2, s2, n2, g2⟩ := changed_spec (P := prog sh) (n := m + 25 + 3) (B := B) (by omega) s1.now pl few hB hB2 (by omega)
  refine ⟨d5, d6, H2, ?_, s1.trans s2, g1.ext s2.ext, g2⟩
  simp [s_par, e_call, a_cons, a_nil, e_var, e1, e2]
theorem rev_txts (l : List Txt) : (txts l).reverse = txts l.reverse := by simp [txts]
/-- the values that are looked at -/
def eleven (names : List Txt) (v d5 d6 : D) (r : Nat) : List D := [.tup (txts names), v, d5, d6, .ref r, .tup (txts names).reverse, .tup (txts names ++ txts names), .tup [.str [110, 101, 120, 116]], .tup [.str []], .str [97], .non]
theorem st5 {m p L k B : Nat} {h : Heap} {names : List Txt} {v d5 d6 : D} {x3 : Option D} (s0 : St p k h h) (pl : Plain names) (few : names.length ≤ 6) (hB2 : B ≤ 10 ^ 500) (g4 : Good [p] h B 9 500 v) (g5 : Good [p] h B 8 600 d5) (g6 : Good [p] h B 10 1200 d6) :
    ∃ y7 y10 H, s_for (i_list (e_lst (a_cons (e_var 2) (a_cons (e_var 4) (a_cons (e_var 5) (a_cons (e_var 6) (a_cons (e_call b_list (a_cons (e_var 2) (a_nil))) (a_cons (e_1 o_rev (e_var 2)) (a_cons (e_2 o_add (e_var 2) (e_var 2)) (a_cons (e_tup (a_cons (e_c (.str [110, 101, 120, 116])) (a_nil))) (a_cons (e_tup (a_cons (e_c (.str [])) (a_nil))) (a_cons (e_c (.str [97])) (a_cons (e_c .non) (a_nil)))))))))))))) (g_name 7) (body (kap (prog sh) (m + 8))) [some (.ref p), some (.ref L), some (.tup (txts names)), x3, some v, some d5, some d6, none, none, none, none, none, none] h =
      .nx [some (.ref p), some (.ref L), some (.tup (txts names)), x3, some v, some d5, some d6, y7, none, none, y10, none, none] H ∧ St p k h H := by
  have lim2 : names.length + names.length ≤ 16777216 := by omega
  have s1 : St p k h (h ++ [.lst (txts names)] ++ [.lst (eleven names v d5 d6 h.length)]) := (s0.app _).app _
  have gt : ∀ H W, 9 * names.length ≤ W → Good [p] H B 11 W (.tup (txts names)) := fun H W hW => (Good.tup (goods_txts (n := 9) pl)).mono (Nat.le_refl _) (Nat.le_refl _) hW
  have pr : Plain names.reverse := fun w hw => pl w (List.mem_reverse.mp hw)
  have gs : ∀ x ∈ eleven names v d5 d6 h.length, Good [p] (h ++ [.lst (txts names)] ++ [.lst (eleven names v d5 d6 h.length)]) B (11 + 1) 1200 x := by
    have ex : Ext [p] h (h ++ [.lst (txts names)] ++ [.lst (eleven names v d5 d6 h.length)]) := s1.ext
    obtain ⟨l0, a0, -⟩ := s0.pot
    have pne : h.length ∉ [p] := by have := get_lt a0; simp; omega
    intro x hx
    simp only [eleven, List.mem_cons, List.not_mem_nil, or_false] at hx
    rcases hx with rfl | rfl | rfl | rfl | rfl | rfl | rfl | rfl | rfl | rfl | rfl
    · exact (gt _ 1200 (by omega)).mono (Nat.le_refl _) (by omega) (by omega)
    · exact (g4.ext ex).mono (Nat.le_refl _) (by omega) (by omega)
    · exact (g5.ext ex).mono (Nat.le_refl _) (by omega) (by omega)
    · exact (g6.ext ex).mono (Nat.le_refl _) (by omega) (by omega)
    · exact (Good.lst pne (get_old get_new) (goods_txts (n := 9) pl)).mono (Nat.le_refl _) (by omega) (by omega)
    · rw [rev_txts]
      exact (Good.tup (goods_txts (n := 9) pr)).mono (Nat.le_refl _) (by omega) (by rw [List.length_reverse]; omega)
    · exact (Good.tup ((goods_txts (n := 9) pl).append (goods_txts (n := 9) pl))).mono (Nat.le_refl _) (by omega) (by omega)
    · exact (Good.tup (n := 10) (.cons (.str (n := 9) (W := 4) (by decide) (by decide)) .nil)).mono (Nat.le_refl _) (by omega) (by omega)
    · exact (Good.tup (n := 10) (.cons (.str (n := 9) (W := 4) (by decide) (by decide)) .nil)).mono (Nat.le_refl _) (by omega) (by omega)
    · exact .str (by decide) (by simp)
    · exact .non
  obtain ⟨y7, y10, e⟩ := loop_spec (sh := sh) (m := m) (p := p) (L := (h ++ [LO.lst (txts names)]).length) (h := h ++ [.lst (txts names)] ++ [.lst (eleven names v d5 d6 h.length)]) (ds := eleven names v d5 d6 h.length) (h0 := h) (x1 := some (.ref L)) (x2 := some (.tup (txts names))) (x3 := x3) (x4 := some v) (x5 := some d5) (x6 := some d6) (x8 := none) (x9 := none) (x11 := none) (x12 := none)
    (it := (i_list (e_lst (a_cons (e_var 2) (a_cons (e_var 4) (a_cons (e_var 5) (a_cons (e_var 6) (a_cons (e_call b_list (a_cons (e_var 2) (a_nil))) (a_cons (e_1 o_rev (e_var 2)) (a_cons (e_2 o_add (e_var 2) (e_var 2)) (a_cons (e_tup (a_cons (e_c (.str [110, 101, 120, 116])) (a_nil))) (a_cons (e_tup (a_cons (e_c (.str [])) (a_nil))) (a_cons (e_c (.str [97])) (a_cons (e_c .non) (a_nil)))))))))))))))
    (by
      have gn : (h ++ [LO.lst (txts names)] ++ [LO.lst (eleven names v d5 d6 h.length)])[h.length + 1]? = some (.lst (eleven names v d5 d6 h.length)) := by
        have := get_new (h := h ++ [LO.lst (txts names)]) (o := LO.lst (eleven names v d5 d6 h.length))
        simpa using this
      simp only [eleven] at gn ⊢
      simp [i_list, e_lst, a_cons, a_nil, e_var, e_call, b_list, items, liftO_some, newO, e_1, o_rev, e_2, o_add, lim2, e_tup, e_c, LIM]) get_new gs (by omega) hB2 (by omega)
  exact ⟨y7, y10, _, e, s1⟩
theorem st6 {m p L k : Nat} {h : Heap} {names : List Txt} {x3 x4 x5 x6 x7 x10 : Option D} (s0 : St p k h h) (wn : ∀ x ∈ names, Word x) (an : Asc names) (few : names.length ≤ 6) :
    ∃ H, s_asg (e_call (o_new (kap (prog sh) (m + 8)) 0 13) (a_cons (e_var 2) (a_nil))) (g_name 8) [some (.ref p), some (.ref L), some (.tup (txts names)), x3, x4, x5, x6, x7, none, none, x10, none, none] h =
      .nx [some (.ref p), some (.ref L), some (.tup (txts names)), x3, x4, x5, x6, x7, some (.ref h.length), none, x10, none, none] H ∧ St p k h H ∧ H[h.length]? = some (inst (.tup (txts names))) := by
  have g : Good [p] h 1 (3 + 1) 60 (.tup (txts names)) := (Good.tup (goods_txts (n := 2) (plain_names wn))).mono (Nat.le_refl _) (Nat.le_refl _) (by omega)
  have e := new_ok (sh := sh) (n := m + 8) (h := h) (by omega) g (by omega) (kinds_names an wn)
  have gn : gc h (.ok (.ref h.length) (h ++ [inst (.tup (txts names))])) = .ok (.ref h.length) (h ++ [inst (.tup (txts names))]) := gc_new get_new (Nat.le_refl _) (by simp [inst, LO.pure, D.pure, pures_strs])
  exact ⟨_, by simp [s_asg, e_call, a_cons, a_nil, e_var, e, gn, g_name], s0.app _, get_new⟩
def somes (names : List Txt) (d7 : D) (s : Txt) : List D := [d7, .str s, .tup (txts names), .non, .bl true, .int 0] ++ txts names
theorem st7 {m p L k B b : Nat} {h : Heap} {names : List Txt} {x3 x4 x5 x6 x7 x10 : Option D} (s0 : St p k h h) (hk : k < 700000) (hLp : L ≠ p) (hL : h[L]? = some (.lst (txts names))) (pl : Plain names) (few : names.length ≤ 6) (hB : 100000000000000000000 < B) :
    ∃ d7 s r H, s_asg (e_2 o_add (e_lst (a_cons (e_call ((kap (prog sh) (m + 12)).fn 5) (a_cons (e_var 0) (a_nil))) (a_cons (e_call ((kap (prog sh) (m + 12)).fn 21) (a_cons (e_var 0) (a_nil))) (a_cons (e_var 2) (a_cons (e_c .non) (a_cons (e_c (.bl true)) (a_cons (e_c (.int 0)) (a_nil)))))))) (e_var 1)) (g_name 9) [some (.ref p), some (.ref L), some (.tup (txts names)), x3, x4, x5, x6, x7, some (.ref b), none, x10, none, none] h =
      .nx [some (.ref p), some (.ref L), some (.tup (txts names)), x3, x4, x5, x6, x7, some (.ref b), some (.ref r), x10, none, none] H ∧ St p (k + 12) h H ∧ H[r]? = some (.lst (somes names d7 s)) ∧ Goods [p] H B 8 800 (somes names d7 s) := by
  obtain ⟨d7, H1, e1, s1, -, n1, g1⟩ := s0.odd (P := prog sh) (n := m + 12 + 3) (B := B) (by omega) hB
  obtain ⟨s, H2, e2, s2, sa, sl⟩ := no_name_spec (sh := sh) (n := m + 12 + 3) (by omega) s1.now (by omega)
  have s3 : St p (k + 12) h (H2 ++ [.lst [d7, .str s, .tup (txts names), .non, .bl true, .int 0]] ++ [.lst (somes names d7 s)]) := (((s1.trans s2).mono (by omega)).app _).app _
  have L2 : H2[L]? = some (.lst (txts names)) := (s1.trans s2).at hLp hL
  have hLl := get_lt L2
  have L3 : (H2 ++ [LO.lst [d7, .str s, .tup (txts names), .non, .bl true, .int 0]])[L]? = some (.lst (txts names)) := get_old L2
  have gd : Goods [p] (H2 ++ [.lst [d7, .str s, .tup (txts names), .non, .bl true, .int 0]] ++ [.lst (somes names d7 s)]) B 8 800 (somes names d7 s) := by
    have g1' := (g1.ext s2.ext).ext (S := [p]) (h' := H2 ++ [.lst [d7, .str s, .tup (txts names), .non, .bl true, .int 0]] ++ [.lst (somes names d7 s)]) (by rw [List.append_assoc]; exact Ext.app)
    have z : PX.wt (.int 0) = 0 := by simp [PX.wt]
    have t : Goods [p] (H2 ++ [.lst [d7, .str s, .tup (txts names), .non, .bl true, .int 0]] ++ [.lst (somes names d7 s)]) B 8 (9 * names.length) (txts names) := goods_txts (n := 7) pl
    have t2 : Good [p] (H2 ++ [.lst [d7, .str s, .tup (txts names), .non, .bl true, .int 0]] ++ [.lst (somes names d7 s)]) B 8 60 (.tup (txts names)) := (Good.tup (goods_txts (n := 6) pl)).mono (Nat.le_refl _) (Nat.le_refl _) (by omega)
    have t0 : Good [p] (H2 ++ [.lst [d7, .str s, .tup (txts names), .non, .bl true, .int 0]] ++ [.lst (somes names d7 s)]) B 8 0 (.int 0) := .int (by simp; omega) (by rw [z]; exact Nat.le_refl _)
    exact ((Goods.cons g1' (.cons (.str sa sl) (.cons t2 (.cons (W := 0) .non (.cons (W := 0) .bl (.cons t0 .nil)))))).append t).mono (Nat.le_refl _) (Nat.le_refl _) (by omega)
  obtain ⟨r, H, g, s4, -, hr, gd2⟩ := gc_lst s0 s3 (r := H2.length + 1) (by have := (s1.trans s2).le; omega) (by
    have := get_new (h := H2 ++ [.lst [d7, .str s, .tup (txts names), .non, .bl true, .int 0]]) (o := .lst (somes names d7 s))
    simpa using this) gd
  refine ⟨d7, s, r, H, ?_, s4, hr, gd2⟩
  have lim : names.length + 6 ≤ 16777216 := by omega
  simp only [somes, List.append_assoc, List.cons_append, List.nil_append] at g
  have e2' : callF (prog sh) (m + 12 + 3) 21 [D.ref p] H1 = .ok (.str s) H2 := e2
  have e1' : callF (prog sh) (m + 12 + 3) 5 [D.ref p] h = .ok d7 H1 := e1
  simp only [Nat.add_assoc] at e1' e2'
  simp [s_asg, e_2, e_lst, a_cons, a_nil, e_call, e_var, e_c, e1', e2', LIM, newO, o_add, List.getElem?_append_left hLl, L2, lim, Nat.add_comm 6, g, g_name]
theorem isStr_good {S : List Nat} {h H : Heap} {B n W : Nat} {x : D} (g : Good S H B n W x) : isTy sub H x .tStr = some (match x with | .str _ => true | _ => false) := by
  cases x with
  | ref k => obtain ⟨_, ⟨ds, e⟩ | ⟨ds, e⟩⟩ := g.unref <;> simp [isTy, e, Ty.lst, Ty.dic]
  | _ => simp [isTy, Ty.bl, Ty.int, Ty.str, Ty.tup, Ty.lst]
theorem st8 {p L k B W n b r : Nat} {h : Heap} {names : List Txt} {ds : List D} {x2 x3 x4 x5 x6 x7 x10 : Option D} (s0 : St p k h h) (hL : h[L]? = some (.lst (txts names))) (hr : h[r]? = some (.lst ds)) (gd : Goods [p] h B n W ds) (hW : W ≤ 800) :
    s_asg (e_lc (i_list (e_var 9)) (g_name 11) (t_yes) (e_and (e_1 (o_isa sub .tStr) (e_var 11)) (e_2 o_in (e_var 11) (e_var 1))) [11]) (g_name 10) [some (.ref p), some (.ref L), x2, x3, x4, x5, x6, x7, some (.ref b), some (.ref r), x10, none, none] h =
      .nx [some (.ref p), some (.ref L), x2, x3, x4, x5, x6, x7, some (.ref b), some (.ref r), some (.ref h.length), none, none] (h ++ [.lst (ds.map fun x => .bl (among names x))]) := by
  have hlL := get_lt hL
  have hlr := get_lt hr
  have dl := gd.len
  have lc := lc_all (it := i_list (e_var 9)) (g := g_name 11) (e := e_and (e_1 (o_isa sub .tStr) (e_var 11)) (e_2 o_in (e_var 11) (e_var 1))) (own := [11]) (σ := [some (.ref p), some (.ref L), x2, x3, x4, x5, x6, x7, some (.ref b), some (.ref r), x10, none, none]) (h := h) (src := ⟨ds, [(r, .lst ds)]⟩) (fun x => .bl (among names x))
    (by simp [i_list, e_var, hr]) (fun acc => by simp [Src.ok, List.getElem?_append_left hlr, hr]) (by simp only [LIM]; omega) (fun x hx acc => by
      refine ⟨_, rfl, ?_⟩
      have gx := (gd.mem hx).ext (S := [p]) (h' := h ++ [.lst acc]) Ext.app
      have it := isStr_good (h := h) gx
      cases x with
      | str s =>
        have e : isIn (h ++ [.lst acc]) (.str s) (.ref L) = some (decide (s ∈ names)) := isIn_ref (get_old hL)
        simp [wipe, e_and, e_1, e_2, e_var, o_isa, isTy, Ty.str, liftO_some, okB, asB, o_in, e, among, gc_bl]
      | _ => simp [wipe, e_and, e_1, e_2, e_var, o_isa, it, liftO_some, okB, asB, among, gc_bl])
  have pb : (LO.lst (ds.map fun x => .bl (among names x))).pure = true := by
    simp only [LO.pure]
    clear lc dl gd hr
    induction ds with
    | nil => rfl
    | cons a r ih => simp [D.pures, D.pure, ih]
  have gn : gc h (.ok (.ref h.length) (h ++ [.lst (ds.map fun x => .bl (among names x))])) = .ok (.ref h.length) (h ++ [.lst (ds.map fun x => .bl (among names x))]) := gc_new get_new (Nat.le_refl _) pb
  simp only [s_asg, lc, gn, Res.to_ok, g_name, onlyNx_nx, List.set_cons_succ, List.set_cons_zero]
theorem plain_good {S : List Nat} {H : Heap} {B n W : Nat} {x : D} (g : Good S H B n W x) : (plainTy H x).isSome = true := by
  cases x with
  | ref k => obtain ⟨_, ⟨ds, e⟩ | ⟨ds, e⟩⟩ := g.unref <;> simp [plainTy, e]
  | _ => simp [plainTy]
theorem st9 {m p L k B W n b r u : Nat} {h : Heap} {names : List Txt} {ds : List D} {x2 x3 x4 x5 x6 x7 : Option D} (s0 : St p k h h) (hk : k < 700000) (hB : 100000000000000000000 < B) (hpb : b ≠ p) (hb : h[b]? = some (inst (.tup (txts names)))) (hr : h[r]? = some (.lst ds)) (hu : h[u]? = some (.lst (ds.map fun x => .bl (among names x)))) (hpu : u ≠ p) (gd : Goods [p] h B n W ds) (hW : W ≤ 800) :
    ∃ H, s_if (t_or (t_b (e_2 o_ne (e_call (b_repr (kap (prog sh) (m + 8))) (a_cons (e_lc (i_list (e_var 9)) (g_name 11) (t_yes) (e_2 (o_ownIn (kap (prog sh) (m + 8)) 0 16) (e_var 11) (e_var 8)) [11]) (a_nil))) (e_call (b_repr (kap (prog sh) (m + 8))) (a_cons (e_var 10) (a_nil))))) (t_b (e_2 o_isnotB (e_2 (o_cmpA (kap (prog sh) (m + 8)) 0 15) (e_var 8) (e_call ((kap (prog sh) (m + 8)).fn 5) (a_cons (e_var 0) (a_nil)))) (e_c (.bl false))))) (s_ret (e_c (.bl false))) (s_nil) [some (.ref p), some (.ref L), x2, x3, x4, x5, x6, x7, some (.ref b), some (.ref r), some (.ref u), none, none] h =
      .nx [some (.ref p), some (.ref L), x2, x3, x4, x5, x6, x7, some (.ref b), some (.ref r), some (.ref u), none, none] H ∧ St p (k + 1) h H := by
  have hlr := get_lt hr
  have dl := gd.len
  have lc := lc_all (it := i_list (e_var 9)) (g := g_name 11) (e := e_2 (o_ownIn (kap (prog sh) (m + 8)) 0 16) (e_var 11) (e_var 8)) (own := [11]) (σ := [some (.ref p), some (.ref L), x2, x3, x4, x5, x6, x7, some (.ref b), some (.ref r), some (.ref u), none, none]) (h := h) (src := ⟨ds, [(r, .lst ds)]⟩) (fun x => .bl (among names x))
    (by simp [i_list, e_var, hr]) (fun acc => by simp [Src.ok, List.getElem?_append_left hlr, hr]) (by simp only [LIM]; omega) (fun x hx acc => by
      refine ⟨_, rfl, ?_⟩
      have gx := (gd.mem hx).ext (S := [p]) (h' := h ++ [.lst acc]) Ext.app
      have e := contains_spec (sh := sh) (n := m + 8 + 3) (h := h ++ [.lst acc]) (b := b) (by omega) (get_old hb) gx
      have c : clsD (h ++ [.lst acc]) (.ref b) = some 0 := by simp only [clsD, get_old hb, inst]
      simp [wipe, e_2, e_var, o_ownIn, c, e, asB, liftO_some, okB, gc_bl])
  have s1 : St p k h (h ++ [.lst (ds.map fun x => .bl (among names x))]) := s0.app _
  have eb : (ds.map fun x => D.bl (among names x)) = (ds.map (among names)).map .bl := by simp
  have r1 : b_repr (kap (prog sh) (m + 8)) [.ref h.length] (h ++ [.lst (ds.map fun x => .bl (among names x))]) = _ := repr_bools (bs := ds.map (among names)) (by rw [← eb]; exact get_new) (by simp; omega)
  have r2 : b_repr (kap (prog sh) (m + 8)) [.ref u] (h ++ [.lst (ds.map fun x => .bl (among names x))]) = _ := repr_bools (bs := ds.map (among names)) (by rw [← eb]; exact get_old hu) (by simp; omega)
  obtain ⟨d, H1, e1, s2, -, n1, g1⟩ := s1.odd (P := prog sh) (n := m + 8 + 3) (B := B) (by omega) hB
  have b2 : H1[b]? = some (inst (.tup (txts names))) := s2.at hpb hb
  have c2 : clsD H1 (.ref b) = some 0 := by simp only [clsD, b2, inst]
  have p2 := plain_good g1
  have e2 := eq_other (sh := sh) (v := .non) (n := m + 8 + 3) (b := b) (by omega) g1
  obtain ⟨H2, g2, s3⟩ := gcB_St (b := false) s0 s2
  refine ⟨H2, ?_, s3⟩
  simp [s_if, t_or, t_b, e_2, e_call, a_cons, a_nil, lc, r1, e_var, r2, ne_txt, asB, liftO_some, e1, o_cmpA, c2, p2, e2, o_isnotB, e_c, okB, g2, s_nil]
theorem st10 {m p k B W n b : Nat} {h : Heap} {names : List Txt} {d5 : D} {x1 x3 x4 x6 x7 x9 x10 : Option D} (s0 : St p k h h) (wn : ∀ x ∈ names, Word x) (an : Asc names) (few : names.length ≤ 6) (hb : h[b]? = some (inst (.tup (txts names)))) (g5 : Good [p] h B n W d5) (hn : n ≤ 50) (hB : B ≤ 10 ^ 500) (hW : W ≤ 7000) :
    ∃ H, s_ret (e_2 o_eq (e_call (b_repr (kap (prog sh) (m + 8))) (a_cons (e_lst (a_cons (e_2 (o_cmp (kap (prog sh) (m + 8)) 0 15) (e_var 8) (e_call (o_new (kap (prog sh) (m + 8)) 0 13) (a_cons (e_var 2) (a_nil)))) (a_cons (e_2 (o_cmpA (kap (prog sh) (m + 8)) 0 15) (e_var 8) (e_var 2)) (a_cons (e_1 o_errval (e_err 1 (e_var 5))) (a_nil))))) (a_nil))) (e_call (b_repr (kap (prog sh) (m + 8))) (a_cons (e_lst (a_cons (e_c (.bl true)) (a_cons (e_c (.bl false)) (a_cons (e_var 5) (a_nil))))) (a_nil)))) [some (.ref p), x1, some (.tup (txts names)), x3, x4, some d5, x6, x7, some (.ref b), x9, x10, none, none] h = .rt (.bl true) H := by
  have gk : ∀ H, Good [p] H 1 (3 + 1) 60 (.tup (txts names)) := fun H => (Good.tup (goods_txts (n := 2) (plain_names wn))).mono (Nat.le_refl _) (Nat.le_refl _) (by omega)
  have e1 := new_ok (sh := sh) (n := m + 8) (h := h) (by omega) (gk h) (by omega) (kinds_names an wn)
  obtain ⟨q, rq⟩ := repr_three g5 hn hB hW
  have b1 : (h ++ [inst (.tup (txts names))])[b]? = some (inst (.tup (txts names))) := get_old hb
  have c1 : clsD (h ++ [inst (.tup (txts names))]) (.ref b) = some 0 := by simp only [clsD, b1]; rfl
  have c2 : clsD (h ++ [inst (.tup (txts names))]) (.ref h.length) = some 0 := by simp only [clsD, get_new]; rfl
  have e2 := eq_same (sh := sh) (n := m + 8 + 3) (a := b) (b := h.length) (by omega) b1 get_new
  have e3 := eq_other (sh := sh) (v := .non) (n := m + 8 + 3) (b := b) (by omega) (gk (h ++ [inst (.tup (txts names))]))
  have pt : (plainTy (h ++ [inst (.tup (txts names))]) (.tup (txts names))).isSome = true := rfl
  have gs : gc (h ++ [inst (.tup (txts names))]) (.ok d5 (h ++ [inst (.tup (txts names))])) = .ok d5 (h ++ [inst (.tup (txts names))]) := gc_same
  have a1 : (h ++ [inst (.tup (txts names))] ++ [.err 1 d5])[h.length + 1]? = some (.err 1 d5) := by
    have := get_new (h := h ++ [inst (.tup (txts names))]) (o := .err 1 d5)
    simpa using this
  have x1 : Ext [p] h (h ++ [inst (.tup (txts names))] ++ [.err 1 d5] ++ [.lst [.bl true, .bl false, d5]]) := (Ext.app.trans Ext.app).trans Ext.app
  have r1 := rq (kap (prog sh) (m + 8)) _ (h.length + 2) x1 (by
    have := get_new (h := h ++ [inst (.tup (txts names))] ++ [.err 1 d5]) (o := .lst [.bl true, .bl false, d5])
    simpa using this)
  have r2 := rq (kap (prog sh) (m + 8)) (h ++ [inst (.tup (txts names))] ++ [.err 1 d5] ++ [.lst [.bl true, .bl false, d5]] ++ [.lst [.bl true, .bl false, d5]]) (h.length + 3) (x1.trans Ext.app) (by
    have := get_new (h := h ++ [inst (.tup (txts names))] ++ [.err 1 d5] ++ [.lst [.bl true, .bl false, d5]]) (o := .lst [.bl true, .bl false, d5])
    simpa using this)
  refine ⟨h ++ [inst (.tup (txts names))] ++ [.err 1 d5] ++ [.lst [.bl true, .bl false, d5]] ++ [.lst [.bl true, .bl false, d5]], ?_⟩
  simp only [List.append_assoc, List.cons_append, List.nil_append] at r1 r2 a1
  simp [s_ret, e_2, e_1, e_call, a_cons, a_nil, e_var, e_lst, newO, o_cmp, o_cmpA, e1, c1, c2, e2, e3, pt, e_err, gs, o_errval, a1, LIM, r1, r2, e_c, eq_txt]
theorem met_spec {p : Nat} {h : Heap} {l : List D} (hp : h[p]? = some (.lst l)) (hl : Pot 0 l) : ∃ H, callF (prog sh) 59 22 [.ref p] h = .ok (.bl true) H := by
  obtain ⟨B, hB, hB2⟩ : ∃ B : Nat, 100000000000000000000 < B ∧ B ≤ 10 ^ 500 := ⟨10 ^ 500, by decide +kernel, Nat.le_refl _⟩
  rw [show (59 : Nat) = 55 + 4 from rfl, callF_succ _ _ _ _ _ d_law_met rfl]
  obtain ⟨names, l1, e1, hl1, wn, an, few⟩ := names_spec (sh := sh) (m := 50) hp hl
  have pl := plain_names wn
  have pl_ := get_lt hp
  have hLp : h.length ≠ p := by omega
  have s1 : St p 64 (h.set p (.lst l1) ++ [.lst (txts names)]) (h.set p (.lst l1) ++ [.lst (txts names)]) := St.self (get_old (get_set hp)) hl1
  have L1 : (h.set p (.lst l1) ++ [.lst (txts names)])[h.length]? = some (.lst (txts names)) := by
    have := get_new (h := h.set p (.lst l1)) (o := .lst (txts names))
    simpa using this
  generalize h.set p (.lst l1) ++ [.lst (txts names)] = H1 at *
  generalize h.length = L at *
  obtain ⟨d, H2, e2, s2, -, -⟩ := st2 (sh := sh) (m := 47) s1 (by omega) L1 few
  obtain ⟨v, H3, e3, s3, g3⟩ := st3 (sh := sh) (m := 43) (L := L) (i := d) s2.now (by omega) pl (by omega)
  obtain ⟨d5, d6, H4, e4, s4, g5, g6⟩ := st4 (sh := sh) (m := 30) (L := L) (x3 := some (.int d)) (x4 := some v) s3.now (by omega) pl (by omega) hB hB2
  obtain ⟨y7, y10, H5, e5, s5⟩ := st5 (sh := sh) (m := 47) (L := L) (x3 := some (.int d)) s4.now pl few hB2 ((g3 B).ext s4.ext) g5 g6
  obtain ⟨H6, e6, s6, b6⟩ := st6 (sh := sh) (m := 47) (L := L) (x3 := some (.int d)) (x4 := some v) (x5 := some d5) (x6 := some d6) (x7 := y7) (x10 := y10) s5.now wn an few
  have bp : H5.length ≠ p := by obtain ⟨_, a, _⟩ := s5.pot; have := get_lt a; omega
  generalize H5.length = b at *
  have t6 := (((s2.trans s3).trans s4).trans s5).trans s6
  obtain ⟨d7, s, r, H7, e7, s7, r7, g7⟩ := st7 (sh := sh) (m := 43) (b := b) (x3 := some (.int d)) (x4 := some v) (x5 := some d5) (x6 := some d6) (x7 := y7) (x10 := y10) s6.now (by omega) hLp (t6.at hLp L1) pl few hB
  have L7 := s7.at hLp (t6.at hLp L1)
  have b7 := s7.at bp b6
  have e8 := st8 (b := b) (x2 := some (.tup (txts names))) (x3 := some (.int d)) (x4 := some v) (x5 := some d5) (x6 := some d6) (x7 := y7) (x10 := y10) s7.now L7 r7 g7 (by omega)
  have s8 := s7.now.app [.lst ((somes names d7 s).map fun x => .bl (among names x))]
  have up : H7.length ≠ p := by obtain ⟨_, a, _⟩ := s7.pot; have := get_lt a; omega
  obtain ⟨H9, e9, s9⟩ := st9 (sh := sh) (m := 47) (L := L) (B := B) (x2 := some (.tup (txts names))) (x3 := some (.int d)) (x4 := some v) (x5 := some d5) (x6 := some d6) (x7 := y7) s8.now (by omega) hB bp (get_old b7) (get_old r7) get_new up (g7.ext s8.ext) (by omega)
  obtain ⟨H10, e10⟩ := st10 (sh := sh) (m := 47) (x1 := some (.ref L)) (x3 := some (.int d)) (x4 := some v) (x6 := some d6) (x7 := y7) (x9 := some (.ref r)) (x10 := some (.ref H7.length)) s9.now wn an few ((s8.trans s9).at bp b7) (((((g5.ext s5.ext).ext s6.ext).ext s7.ext).ext s8.ext).ext s9.ext) (by omega) hB2 (by omega)
  have body : b_law_met (kap (prog sh) 55) [some (.ref p), none, none, none, none, none, none, none, none, none, none, none, none] h = .rt (.bl true) H10 :=
    (seq e1).trans ((seq e2).trans ((seq e3).trans ((seq e4).trans ((seq e5).trans ((seq e6).trans ((seq e7).trans ((seq e8).trans ((seq e9).trans e10))))))))
  rw [run_rt rfl (v := .bl true) (h' := H10) body]
  exact gc_ex
theorem law_true (is : List Int) (hl : is.length ≤ 63) : ∃ h', callF (prog sh) 60 23 [.frz (is.map .int)] [] = .ok (.bl true) h' := by
  rw [show (60 : Nat) = 56 + 4 from rfl, callF_succ _ _ _ _ _ d_law rfl]
  generalize hc : (if (1 : Int) < (if (10 : Int) < is.length then 10 else (is.length : Int)) then (if (10 : Int) < is.length then 10 else (is.length : Int)) else 1) = c
  have c1 : 1 ≤ c ∧ c ≤ 10 := by rw [← hc]; split <;> split <;> omega
  have len0 : b_len [.frz (is.map .int)] [] = .ok (.int is.length) [] := by simp [b_len, lenD, liftO_some]
  have it : i_rng1 (e_call b_max (a_cons (e_c (.int 1)) (a_cons (e_call b_min (a_cons (e_call b_len (a_cons (e_var 0) (a_nil))) (a_cons (e_c (.int 10)) (a_nil)))) (a_nil)))) [some (.frz (is.map .int)), none] [] = .ok ⟨rng 0 c.toNat 1, []⟩ [] := by
    have mn : b_min [.int is.length, .int 10] [] = .ok (.int (if (10 : Int) < is.length then 10 else (is.length : Int))) [] := rfl
    have mx : ∀ z : Int, b_max [.int 1, .int z] [] = .ok (.int (if (1 : Int) < z then z else 1)) [] := fun z => rfl
    have b : -B62 ≤ c ∧ c < B62 := by simp only [B62]; omega
    simp only [i_rng1, e_call, a_cons, a_nil, e_c, e_var, List.getElem?_cons_zero, Res.bind_ok, len0, mn, mx, hc]
    rw [if_pos b]
  obtain ⟨σ', h', ⟨x, rfl⟩, f⟩ := for_inv (g := g_name 1) (body := s_if (t_not (t_e (e_call ((kap (prog sh) 56).fn 22) (a_cons (e_call ((kap (prog sh) 56).fn 2) (a_cons (e_var 0) (a_cons (e_var 1) (a_nil)))) (a_nil))))) (s_ret (e_c (.bl false))) (s_nil)) (fun i σ h => ∃ x, σ = [some (.frz (is.map .int)), x]) it (fun _ _ _ _ => rfl) ⟨none, rfl⟩
    (fun i x σ h hx ⟨x0, e⟩ => by
      subst e
      have hi : i < c.toNat := by have := (List.getElem?_eq_some_iff.mp hx).1; simpa [rng] using this
      have ex : x = .int (0 + (i : Nat) * 1) := by
        simp only [rng, List.getElem?_map, Option.map_eq_some_iff] at hx
        obtain ⟨k, hk, rfl⟩ := hx
        rw [List.getElem?_range (by omega)] at hk
        cases hk; rfl
      rw [show (0 + (i : Int) * 1) = (i : Int) by omega] at ex
      subst ex
      obtain ⟨l, ep, hp⟩ := pot_spec (P := prog sh) (n := 56 + 3) (h := h) (is := is) (i := i) (by omega) (by omega) (by omega)
      obtain ⟨h2, er⟩ := met_spec (sh := sh) (p := h.length) (h := h ++ [.lst l]) get_new hp
      have t : (t_not (t_e (e_call ((kap (prog sh) 56).fn 22) (a_cons (e_call ((kap (prog sh) 56).fn 2) (a_cons (e_var 0) (a_cons (e_var 1) (a_nil)))) (a_nil))))) [some (.frz (is.map .int)), some (.int i)] h = .ok false h2 := by
        simp only [t_not, t_e, e_call, a_cons, a_nil, e_var, List.getElem?_cons_zero, List.getElem?_cons_succ, Res.bind_ok, ep, er, truth, liftO_some, Bool.not_true]
      obtain ⟨h3, gB⟩ := gcB_ex (h := h) (H := h2) (b := false)
      refine ⟨[some (.frz (is.map .int)), some (.int i)], rfl, [some (.frz (is.map .int)), some (.int i)], h3, ?_, _, rfl⟩
      simp only [s_if, t, gB, Res.to_ok, Bool.false_eq_true, if_false, s_nil])
  have body : b_law (kap (prog sh) 56) [some (.frz (is.map .int)), none] [] = .rt (.bl true) h' := (seq f).trans rfl
  rw [run_rt rfl (v := .bl true) (h' := h') body]
  exact gc_ex
end K02
end

section
set_option Elab.async false
set_option linter.all false
set_option autoImplicit false
set_option maxRecDepth 100000
set_option maxHeartbeats 4000000
/-! each def by its body: derivations over the small semantics (printed by gen.py) -/
namespace K02
open PySem PySem.Spec PyProof.Rows L2 IR He
def top (i : Nat) : Stmt := PySem.Challenge.pw_sparedlines_k02_what_is_no_build.main.body.getD i (.Pass ⟨0, 0, 0, 0⟩)
abbrev st_law_take : Stmt := top 21
abbrev st_law_of : Stmt := top 22
abbrev st_law_pot : Stmt := top 20
abbrev st_law_ordered : Stmt := top 23
abbrev st_law_word : Stmt := top 29
abbrev st_law_odd : Stmt := top 24
abbrev st_law_changed : Stmt := top 25
abbrev st_law_changed_in : Stmt := top 26
abbrev st_law_changed_row : Stmt := top 27
abbrev st_law_changed_leaf : Stmt := top 28
abbrev st_is_name : Stmt := top 9
abbrev st_is_ascending : Stmt := top 10
abbrev st_are_kinds : Stmt := top 14
abbrev st_Build_init : Stmt := clsSt (top 18) 0
abbrev st_Build_kinds : Stmt := clsSt (top 18) 1
abbrev st_Build_eq : Stmt := clsSt (top 18) 2
abbrev st_Build_contains : Stmt := clsSt (top 18) 3
abbrev st_law_is_name : Stmt := top 30
abbrev st_law_are_kinds : Stmt := top 31
abbrev st_law_told : Stmt := top 32
abbrev st_law_base : Stmt := top 33
abbrev st_law_no_name : Stmt := top 34
abbrev st_law_met : Stmt := top 35
abbrev st_law : Stmt := top 36
/-- where each def stands -/
def adr (K : PySem.W.Frag) : Nat → Addr
  | 0 => ga K "_law_take"
  | 1 => ga K "_law_of"
  | 2 => ga K "_law_pot"
  | 3 => ga K "_law_ordered"
  | 4 => ga K "_law_word"
  | 5 => ga K "_law_odd"
  | 6 => ga K "_law_changed"
  | 7 => ga K "_law_changed_in"
  | 8 => ga K "_law_changed_row"
  | 9 => ga K "_law_changed_leaf"
  | 10 => ga K "is_name"
  | 11 => ga K "is_ascending"
  | 12 => ga K "are_kinds"
  | 13 => ma K (ga K "Build") "__init__"
  | 14 => propG K (ma K (ga K "Build") "kinds")
  | 15 => ma K (ga K "Build") "__eq__"
  | 16 => ma K (ga K "Build") "__contains__"
  | 17 => ga K "_law_is_name"
  | 18 => ga K "_law_are_kinds"
  | 19 => ga K "_law_told"
  | 20 => ga K "_law_base"
  | 21 => ga K "_law_no_name"
  | 22 => ga K "_law_met"
  | 23 => ga K "law"
  | _ => 0
def pst : Nat → List Str
  | 0 => ["_law_pot_here", "_law_upto"]
  | 1 => ["_law_pot_here", "_law_some"]
  | 2 => ["_law_script", "_law_k"]
  | 3 => ["_law_rows"]
  | 4 => ["_law_pot_here"]
  | 5 => ["_law_pot_here"]
  | 6 => ["_law_pot_here", "_law_value"]
  | 7 => ["_law_pot_here", "_law_value", "_law_deep"]
  | 8 => ["_law_pot_here", "_law_value"]
  | 9 => ["_law_pot_here", "_law_value"]
  | 10 => ["value"]
  | 11 => ["rows"]
  | 12 => ["value"]
  | 13 => ["self", "kinds"]
  | 14 => ["self"]
  | 15 => ["self", "other"]
  | 16 => ["self", "kind"]
  | 17 => ["_law_value"]
  | 18 => ["_law_value"]
  | 19 => ["_law_value"]
  | 20 => ["_law_value"]
  | 21 => ["_law_pot_here"]
  | 22 => ["_law_pot_here"]
  | 23 => ["_law_script"]
  | _ => []
def clN : Nat → Str
  | _ => "Build"
def ecN : Nat → Str
  | 0 => "BadKinds"
  | 1 => "BadLine"
  | _ => "SparedError"
abbrev wd (K : PySem.W.Frag) : Wd := ⟨K, fun c => ga K (clN c), fun c => ga K (ecN c), Str.ofString⟩
abbrev st_err : Stmt := clsSt (top 2) 0
abbrev EB (K : PySem.W.Frag) : Addr := ga K "SparedError"
abbrev EF (K : PySem.W.Frag) : Addr := ma K (ga K "SparedError") "__init__"
abbrev PR : Program := PySem.Challenge.pw_sparedlines_k02_what_is_no_build
theorem no_super : (PR.main.scope.names.lookup ("super" : Str)).isSome = false := by kernel_rfl
abbrev FunI (K : PySem.W.Frag) (i : Nat) (x qual : Str) (st : Stmt) : Prop := FunD K x qual (defArgs st) (defBody st) (defScope st) [] [] (adr K i) (fdOf K (adr K i))
/-- what the top has -/
structure Top (K : PySem.W.Frag) (mg : Str → Option Value) : Prop where
  d0 : FunI K 0 "_law_take" "_law_take" st_law_take
  d1 : FunI K 1 "_law_of" "_law_of" st_law_of
  d2 : FunI K 2 "_law_pot" "_law_pot" st_law_pot
  d3 : FunI K 3 "_law_ordered" "_law_ordered" st_law_ordered
  d4 : FunI K 4 "_law_word" "_law_word" st_law_word
  d5 : FunI K 5 "_law_odd" "_law_odd" st_law_odd
  d6 : FunI K 6 "_law_changed" "_law_changed" st_law_changed
  d7 : FunI K 7 "_law_changed_in" "_law_changed_in" st_law_changed_in
  d8 : FunI K 8 "_law_changed_row" "_law_changed_row" st_law_changed_row
  d9 : FunI K 9 "_law_changed_leaf" "_law_changed_leaf" st_law_changed_leaf
  d10 : FunI K 10 "is_name" "is_name" st_is_name
  d11 : FunI K 11 "is_ascending" "is_ascending" st_is_ascending
  d12 : FunI K 12 "are_kinds" "are_kinds" st_are_kinds
  d13 : FunI K 13 "__init__" "Build.__init__" st_Build_init
  d14 : FunI K 14 "kinds" "Build.kinds" st_Build_kinds
  d15 : FunI K 15 "__eq__" "Build.__eq__" st_Build_eq
  d16 : FunI K 16 "__contains__" "Build.__contains__" st_Build_contains
  d17 : FunI K 17 "_law_is_name" "_law_is_name" st_law_is_name
  d18 : FunI K 18 "_law_are_kinds" "_law_are_kinds" st_law_are_kinds
  d19 : FunI K 19 "_law_told" "_law_told" st_law_told
  d20 : FunI K 20 "_law_base" "_law_base" st_law_base
  d21 : FunI K 21 "_law_no_name" "_law_no_name" st_law_no_name
  d22 : FunI K 22 "_law_met" "_law_met" st_law_met
  d23 : FunI K 23 "law" "law" st_law
  g_BadKinds : mg "BadKinds" = some (.ref (ga K "BadKinds"))
  g_BadLine : mg "BadLine" = some (.ref (ga K "BadLine"))
  g_Build : mg "Build" = some (.ref (ga K "Build"))
  g_SparedError : mg "SparedError" = some (.ref (ga K "SparedError"))
  g__law_are_kinds : mg "_law_are_kinds" = some (.ref (ga K "_law_are_kinds"))
  g__law_base : mg "_law_base" = some (.ref (ga K "_law_base"))
  g__law_changed : mg "_law_changed" = some (.ref (ga K "_law_changed"))
  g__law_changed_in : mg "_law_changed_in" = some (.ref (ga K "_law_changed_in"))
  g__law_changed_leaf : mg "_law_changed_leaf" = some (.ref (ga K "_law_changed_leaf"))
  g__law_changed_row : mg "_law_changed_row" = some (.ref (ga K "_law_changed_row"))
  g__law_is_name : mg "_law_is_name" = some (.ref (ga K "_law_is_name"))
  g__law_met : mg "_law_met" = some (.ref (ga K "_law_met"))
  g__law_no_name : mg "_law_no_name" = some (.ref (ga K "_law_no_name"))
  g__law_odd : mg "_law_odd" = some (.ref (ga K "_law_odd"))
  g__law_of : mg "_law_of" = some (.ref (ga K "_law_of"))
  g__law_ordered : mg "_law_ordered" = some (.ref (ga K "_law_ordered"))
  g__law_pot : mg "_law_pot" = some (.ref (ga K "_law_pot"))
  g__law_take : mg "_law_take" = some (.ref (ga K "_law_take"))
  g__law_told : mg "_law_told" = some (.ref (ga K "_law_told"))
  g__law_word : mg "_law_word" = some (.ref (ga K "_law_word"))
  g_are_kinds : mg "are_kinds" = some (.ref (ga K "are_kinds"))
  g_is_ascending : mg "is_ascending" = some (.ref (ga K "is_ascending"))
  g_is_name : mg "is_name" = some (.ref (ga K "is_name"))
  g_law : mg "law" = some (.ref (ga K "law"))
  f_ValueError : mg "ValueError" = none
  f_abs : mg "abs" = none
  f_all : mg "all" = none
  f_bool : mg "bool" = none
  f_int : mg "int" = none
  f_isinstance : mg "isinstance" = none
  f_len : mg "len" = none
  f_list : mg "list" = none
  f_max : mg "max" = none
  f_min : mg "min" = none
  f_range : mg "range" = none
  f_repr : mg "repr" = none
  f_str : mg "str" = none
  f_super : mg "super" = none
  f_tuple : mg "tuple" = none
  f_zip : mg "zip" = none
  c_LETTERS : ∃ u v, mg "LETTERS" = some u ∧ RelV v u ∧ ∀ α H, Rep K α H (.str [97, 98, 99, 100, 101, 102, 103, 104, 105, 106, 107, 108, 109, 110, 111, 112, 113, 114, 115, 116, 117, 118, 119, 120, 121, 122]) v
  c_MOST_LETTERS : ∃ u v, mg "MOST_LETTERS" = some u ∧ RelV v u ∧ ∀ α H, Rep K α H (.int 8) v
  c_TAKEN_WORDS : ∃ u v, mg "TAKEN_WORDS" = some u ∧ RelV v u ∧ ∀ α H, Rep K α H (.tup [(.str [110, 101, 120, 116]), (.str [109, 111, 114, 101]), (.str [110, 111, 116]), (.str [115, 97, 109, 101]), (.str [108, 101, 115, 115]), (.str [97, 110, 100]), (.str [111, 114])]) v
  cls : ∀ c, ClsOk (wd K) c
  ecs : ∀ c, LookC K ((wd K).ec c)
  sysd : SysD K
  ini : ∃ st1 st2, InitF PR K mg (EB K) (EF K) (fdOf K (EF K)) st1 st2 ∧ Binds K (fdOf K (EF K)) pI []
  third : PySem.W.nsIn K PySem.cStatics "thirdparty.any" = some none
  cmp_Build_eq : CmpF K (ga K "Build") (adr K 15) "__eq__"
  errt_BadKinds : ErrT PR K mg (EB K) (EF K) (ga K "BadKinds")
  errt_BadLine : ErrT PR K mg (EB K) (EF K) (ga K "BadLine")
  exm_BadKinds : ∀ c, PySem.W.exmOne K (.ref ((wd K).ec c)) (.ref (ga K "BadKinds")) = some (sub c 1000)
  exm_BadLine : ∀ c, PySem.W.exmOne K (.ref ((wd K).ec c)) (.ref (ga K "BadLine")) = some (sub c 1001)
  exm_SparedError : ∀ c, PySem.W.exmOne K (.ref ((wd K).ec c)) (.ref (ga K "SparedError")) = some (sub c 1002)
  na_own_kinds : ∀ c, NoAttr K ((wd K).cl c) ((wd K).fld "own_kinds")
  isa_BadKinds : IsaOk (wd K) sub (.eown 0) (.ref (ga K "BadKinds"))
  isa_Build : IsaOk (wd K) sub (.own 0) (.ref (ga K "Build"))
  isa_ValueError : IsaOk (wd K) sub .tVal (.type "ValueError")
  isa_bool : IsaOk (wd K) sub .tBool (.type "bool")
  isa_int : IsaOk (wd K) sub .tInt (.type "int")
  isa_str : IsaOk (wd K) sub .tStr (.type "str")
  isa_tuple : IsaOk (wd K) sub .tTuple (.type "tuple")
  meth_Build_contains : PySem.W.findIn K (.ref (ga K "Build")) (Str.ofString "__contains__") = some (some (.ref (adr K 16))) ∧ PySem.W.isFn K (.ref (adr K 16)) = true
  mk_Build : Mk K (ga K "Build") (ma K (ga K "Build") "__init__")
  prop_Build_kinds : PropOf K (ga K "Build") "kinds" (ma K (ga K "Build") "kinds") (adr K 14)
theorem sc_law_take : FnScope ["_law_pot_here", "_law_upto", "_law_prime", "_law_mixed", "_law_digit"] ["_law_pot_here", "_law_upto"] (defScope st_law_take) := ⟨rfl, rfl, rfl, by decide +kernel, rfl, by decide +kernel, by decide +kernel⟩
theorem sc_law_of : FnScope ["_law_pot_here", "_law_some"] ["_law_pot_here", "_law_some"] (defScope st_law_of) := ⟨rfl, rfl, rfl, by decide +kernel, rfl, by decide +kernel, by decide +kernel⟩
theorem sc_law_pot : FnScope ["_law_script", "_law_k", "_law_cell", "_law_own", "_law_small"] ["_law_script", "_law_k"] (defScope st_law_pot) := ⟨rfl, rfl, rfl, by decide +kernel, rfl, by decide +kernel, by decide +kernel⟩
theorem sc_law_ordered : FnScope ["_law_rows", "_law_found", "_law_row", "_law_at"] ["_law_rows"] (defScope st_law_ordered) := ⟨rfl, rfl, rfl, by decide +kernel, rfl, by decide +kernel, by decide +kernel⟩
theorem sc_law_word : FnScope ["_law_pot_here", "_law_word_here", "_law_lap"] ["_law_pot_here"] (defScope st_law_word) := ⟨rfl, rfl, rfl, by decide +kernel, rfl, by decide +kernel, by decide +kernel⟩
theorem sc_law_odd : FnScope ["_law_pot_here", "_law_some"] ["_law_pot_here"] (defScope st_law_odd) := ⟨rfl, rfl, rfl, by decide +kernel, rfl, by decide +kernel, by decide +kernel⟩
theorem sc_law_changed : FnScope ["_law_pot_here", "_law_value", "_law_found"] ["_law_pot_here", "_law_value"] (defScope st_law_changed) := ⟨rfl, rfl, rfl, by decide +kernel, rfl, by decide +kernel, by decide +kernel⟩
theorem sc_law_changed_in : FnScope ["_law_pot_here", "_law_value", "_law_deep", "_law_spot"] ["_law_pot_here", "_law_value", "_law_deep"] (defScope st_law_changed_in) := ⟨rfl, rfl, rfl, by decide +kernel, rfl, by decide +kernel, by decide +kernel⟩
theorem sc_law_changed_row : FnScope ["_law_pot_here", "_law_value", "_law_way", "_law_spot"] ["_law_pot_here", "_law_value"] (defScope st_law_changed_row) := ⟨rfl, rfl, rfl, by decide +kernel, rfl, by decide +kernel, by decide +kernel⟩
theorem sc_law_changed_leaf : FnScope ["_law_pot_here", "_law_value", "_law_way", "_law_near"] ["_law_pot_here", "_law_value"] (defScope st_law_changed_leaf) := ⟨rfl, rfl, rfl, by decide +kernel, rfl, by decide +kernel, by decide +kernel⟩
theorem sc_is_name : FnScope ["value", "letter"] ["value"] (defScope st_is_name) := ⟨rfl, rfl, rfl, by decide +kernel, rfl, by decide +kernel, by decide +kernel⟩
theorem sc_is_ascending : FnScope ["rows", "one", "other"] ["rows"] (defScope st_is_ascending) := ⟨rfl, rfl, rfl, by decide +kernel, rfl, by decide +kernel, by decide +kernel⟩
theorem sc_are_kinds : FnScope ["value", "kind"] ["value"] (defScope st_are_kinds) := ⟨rfl, rfl, rfl, by decide +kernel, rfl, by decide +kernel, by decide +kernel⟩
theorem sc_Build_init : FnScope ["self", "kinds"] ["self", "kinds"] (defScope st_Build_init) := ⟨rfl, rfl, rfl, by decide +kernel, rfl, by decide +kernel, by decide +kernel⟩
theorem sc_Build_kinds : FnScope ["self"] ["self"] (defScope st_Build_kinds) := ⟨rfl, rfl, rfl, by decide +kernel, rfl, by decide +kernel, by decide +kernel⟩
theorem sc_Build_eq : FnScope ["self", "other"] ["self", "other"] (defScope st_Build_eq) := ⟨rfl, rfl, rfl, by decide +kernel, rfl, by decide +kernel, by decide +kernel⟩
theorem sc_Build_contains : FnScope ["self", "kind"] ["self", "kind"] (defScope st_Build_contains) := ⟨rfl, rfl, rfl, by decide +kernel, rfl, by decide +kernel, by decide +kernel⟩
theorem sc_law_is_name : FnScope ["_law_value", "_law_letter"] ["_law_value"] (defScope st_law_is_name) := ⟨rfl, rfl, rfl, by decide +kernel, rfl, by decide +kernel, by decide +kernel⟩
theorem sc_law_are_kinds : FnScope ["_law_value", "_law_at", "_law_one"] ["_law_value"] (defScope st_law_are_kinds) := ⟨rfl, rfl, rfl, by decide +kernel, rfl, by decide +kernel, by decide +kernel⟩
theorem sc_law_told : FnScope ["_law_value", "error"] ["_law_value"] (defScope st_law_told) := ⟨rfl, rfl, rfl, by decide +kernel, rfl, by decide +kernel, by decide +kernel⟩
theorem sc_law_base : FnScope ["_law_value", "error"] ["_law_value"] (defScope st_law_base) := ⟨rfl, rfl, rfl, by decide +kernel, rfl, by decide +kernel, by decide +kernel⟩
theorem sc_law_no_name : FnScope ["_law_pot_here", "_law_word_here"] ["_law_pot_here"] (defScope st_law_no_name) := ⟨rfl, rfl, rfl, by decide +kernel, rfl, by decide +kernel, by decide +kernel⟩
theorem sc_law_met : FnScope ["_law_pot_here", "_law_names", "_law_kinds", "_law_at", "_law_wrong", "_law_odd_here", "_law_changed_here", "_law_value", "_law_build", "_law_some", "_law_due", "_law_one", "_law_lap"] ["_law_pot_here"] (defScope st_law_met) := ⟨rfl, rfl, rfl, by decide +kernel, rfl, by decide +kernel, by decide +kernel⟩
theorem sc_law : FnScope ["_law_script", "_law_k"] ["_law_script"] (defScope st_law) := ⟨rfl, rfl, rfl, by decide +kernel, rfl, by decide +kernel, by decide +kernel⟩
section
variable {w : World} {K : PySem.W.Frag} {mg : Str → Option Value} {base : PySem.Heap}
theorem Top.kp (T : Top K mg) : ∀ i, defs i ≠ none → PySem.W.keepIn K (.ref (adr K i)) = true
  | 0, _ => T.d0.kp
  | 1, _ => T.d1.kp
  | 2, _ => T.d2.kp
  | 3, _ => T.d3.kp
  | 4, _ => T.d4.kp
  | 5, _ => T.d5.kp
  | 6, _ => T.d6.kp
  | 7, _ => T.d7.kp
  | 8, _ => T.d8.kp
  | 9, _ => T.d9.kp
  | 10, _ => T.d10.kp
  | 11, _ => T.d11.kp
  | 12, _ => T.d12.kp
  | 13, _ => T.d13.kp
  | 14, _ => T.d14.kp
  | 15, _ => T.d15.kp
  | 16, _ => T.d16.kp
  | 17, _ => T.d17.kp
  | 18, _ => T.d18.kp
  | 19, _ => T.d19.kp
  | 20, _ => T.d20.kp
  | 21, _ => T.d21.kp
  | 22, _ => T.d22.kp
  | 23, _ => T.d23.kp
  | _ + 24, h => absurd rfl h
theorem Top.bd (T : Top K mg) : ∀ i, defs i ≠ none → Binds K (fdOf K (adr K i)) (pst i) []
  | 0, _ => T.d0.bindsN fun _ _ _ _ _ _ us hl => match us, hl with | [_, _], _ => rfl
  | 1, _ => T.d1.bindsN fun _ _ _ _ _ _ us hl => match us, hl with | [_, _], _ => rfl
  | 2, _ => T.d2.bindsN fun _ _ _ _ _ _ us hl => match us, hl with | [_, _], _ => rfl
  | 3, _ => T.d3.bindsN fun _ _ _ _ _ _ us hl => match us, hl with | [_], _ => rfl
  | 4, _ => T.d4.bindsN fun _ _ _ _ _ _ us hl => match us, hl with | [_], _ => rfl
  | 5, _ => T.d5.bindsN fun _ _ _ _ _ _ us hl => match us, hl with | [_], _ => rfl
  | 6, _ => T.d6.bindsN fun _ _ _ _ _ _ us hl => match us, hl with | [_, _], _ => rfl
  | 7, _ => T.d7.bindsN fun _ _ _ _ _ _ us hl => match us, hl with | [_, _, _], _ => rfl
  | 8, _ => T.d8.bindsN fun _ _ _ _ _ _ us hl => match us, hl with | [_, _], _ => rfl
  | 9, _ => T.d9.bindsN fun _ _ _ _ _ _ us hl => match us, hl with | [_, _], _ => rfl
  | 10, _ => T.d10.bindsN fun _ _ _ _ _ _ us hl => match us, hl with | [_], _ => rfl
  | 11, _ => T.d11.bindsN fun _ _ _ _ _ _ us hl => match us, hl with | [_], _ => rfl
  | 12, _ => T.d12.bindsN fun _ _ _ _ _ _ us hl => match us, hl with | [_], _ => rfl
  | 13, _ => T.d13.bindsN fun _ _ _ _ _ _ us hl => match us, hl with | [_, _], _ => rfl
  | 14, _ => T.d14.bindsN fun _ _ _ _ _ _ us hl => match us, hl with | [_], _ => rfl
  | 15, _ => T.d15.bindsN fun _ _ _ _ _ _ us hl => match us, hl with | [_, _], _ => rfl
  | 16, _ => T.d16.bindsN fun _ _ _ _ _ _ us hl => match us, hl with | [_, _], _ => rfl
  | 17, _ => T.d17.bindsN fun _ _ _ _ _ _ us hl => match us, hl with | [_], _ => rfl
  | 18, _ => T.d18.bindsN fun _ _ _ _ _ _ us hl => match us, hl with | [_], _ => rfl
  | 19, _ => T.d19.bindsN fun _ _ _ _ _ _ us hl => match us, hl with | [_], _ => rfl
  | 20, _ => T.d20.bindsN fun _ _ _ _ _ _ us hl => match us, hl with | [_], _ => rfl
  | 21, _ => T.d21.bindsN fun _ _ _ _ _ _ us hl => match us, hl with | [_], _ => rfl
  | 22, _ => T.d22.bindsN fun _ _ _ _ _ _ us hl => match us, hl with | [_], _ => rfl
  | 23, _ => T.d23.bindsN fun _ _ _ _ _ _ us hl => match us, hl with | [_], _ => rfl
  | _ + 24, h => absurd rfl h
theorem Top.mke_BadKinds (T : Top K mg) {k : Nat} : MkE PR w K mg base (k + 1) (ga K "BadKinds") := mkE_of T.ini T.errt_BadKinds T.f_super T.third no_super
theorem Top.mke_BadLine (T : Top K mg) {k : Nat} : MkE PR w K mg base (k + 1) (ga K "BadLine") := mkE_of T.ini T.errt_BadLine T.f_super T.third no_super
abbrev AllOk (P : Program) (w : World) (K : PySem.W.Frag) (mg : Str → Option Value) (base : PySem.Heap) (j : Nat) (g : Nat → OL) : Prop := ∀ i, FnG P w K mg base j (adr K i) (fdOf K (adr K i)) (pst i) (spG (wd K) (g i))
theorem clN_top {K : PySem.W.Frag} : ∀ c, 2 ≤ c → (wd K).cl c = (wd K).cl 2
  | c, h => by
    have e : clN c = clN 2 := by
      unfold clN
      split <;> first | rfl | omega
    show ga K (clN c) = ga K (clN 2)
    rw [e]
theorem ecN_top {K : PySem.W.Frag} : ∀ c, 2 ≤ c → (wd K).ec c = (wd K).ec 2
  | c, h => by
    have e : ecN c = ecN 2 := by
      unfold ecN
      split <;> first | rfl | omega
    show ga K (ecN c) = ga K (ecN 2)
    rw [e]
theorem na_ok {K : PySem.W.Frag} {f : String} (h : ((List.range 3).all fun c => (Fa.noat (clN c) (Str.ofString f)).ok K) = true) : ∀ c, NoAttr K ((wd K).cl c) ((wd K).fld f) := by
  intro c
  by_cases hc : c < 3
  · exact noat_ok (List.all_eq_true.mp h c (List.mem_range.mpr hc))
  · rw [clN_top c (by omega)]
    exact noat_ok (List.all_eq_true.mp h 2 (List.mem_range.mpr (by omega)))
end
end K02
end

section
set_option Elab.async false
set_option linter.all false
set_option autoImplicit false
set_option maxRecDepth 100000
set_option maxHeartbeats 4000000
/-! each def by its body (printed by gen.py) -/
namespace K02
open PySem PySem.Spec PyProof.Rows L2 IR He
section
variable {w : World} {K : PySem.W.Frag} {mg : Str → Option Value} {base : PySem.Heap}
theorem ok_law_take (T : Top K mg) {n : Nat} {κ : Kap} (hκ : κ.shown = shownP) (A1 : AllOk PR w K mg base (n + 3) κ.fn) (A2 : AllOk PR w K mg base (n + 2) κ.ini) (A3 : AllOk PR w K mg base n κ.low) : FnG PR w K mg base (n + 4) (adr K 0) (fdOf K (adr K 0)) (pst 0) (spG (wd K) (runDef κ d_law_take)) :=
  fn_def T.d0 sc_law_take rfl rfl fun cdv A outer s H E hr hn =>
    qs_cons (q_ifS (qt_cmp op_gt s_gt (q_item (by rfl) (q_var 0) (q_int)) (q_int) (nomark _)) (qs_cons (q_set 4 sc_law_take.nd (q_2 op_mod s_mod (q_callTy s_int1 call_int1 (by rfl) T.f_int (by rfl) (qa_cons (q_item (by rfl) (q_var 0) (q_int)) (qa_nil))) (q_var 1))) (
    qs_cons (q_put (by rfl) (q_2 op_fdiv s_fdiv (q_item (by rfl) (q_var 0) (q_int)) (q_var 1)) (q_var 0) (q_int)) (
    qs_one (q_ret (q_var 4))))) (qs_nil)) (
    qs_cons (q_put (by rfl) (q_2 op_addAll s_add (q_item (by rfl) (q_var 0) (q_int)) (q_int)) (q_var 0) (q_int)) (
    qs_cons (q_set 2 sc_law_take.nd (q_item (by rfl) (q_lst (qa_cons (q_int) (qa_cons (q_int) (qa_cons (q_int) (qa_cons (q_int) (qa_cons (q_int) (qa_nil))))))) (q_2 op_mod s_mod (q_callTy s_int1 call_int1 (by rfl) T.f_int (by rfl) (qa_cons (q_item (by rfl) (q_var 0) (q_int)) (qa_nil))) (q_int)))) (
    qs_cons (q_set 3 sc_law_take.nd (q_2 op_mod s_mod (q_callTy s_int1 call_int1 (by rfl) T.f_int (by rfl) (qa_cons (q_2 op_powW s_pow (q_callTy s_int1 call_int1 (by rfl) T.f_int (by rfl) (qa_cons (q_2 op_addAll s_add (q_2 op_addAll s_add (q_item (by rfl) (q_var 0) (q_int)) (q_2 op_mulAll s_mul (q_2 op_mulAll s_mul (q_int) (q_item (by rfl) (q_var 0) (q_int))) (q_item (by rfl) (q_var 0) (q_int)))) (q_int)) (qa_nil))) (q_int)) (qa_nil))) (q_var 2))) (
    qs_cons (q_set 3 sc_law_take.nd (q_2 op_mod s_mod (q_callTy s_int1 call_int1 (by rfl) T.f_int (by rfl) (qa_cons (q_2 op_mulAll s_mul (q_var 3) (q_2 op_addAll s_add (q_2 op_mod s_mod (q_callTy s_int1 call_int1 (by rfl) T.f_int (by rfl) (qa_cons (q_var 3) (qa_nil))) (q_int)) (q_2 op_mulAll s_mul (q_int) (q_item (by rfl) (q_var 0) (q_int))))) (qa_nil))) (q_int))) (
    qs_one (q_ret (q_2 op_mod s_mod (q_callTy s_int1 call_int1 (by rfl) T.f_int (by rfl) (qa_cons (q_2 op_fdiv s_fdiv (q_var 3) (q_int)) (qa_nil))) (q_var 1))))))))
theorem ok_law_of (T : Top K mg) {n : Nat} {κ : Kap} (hκ : κ.shown = shownP) (A1 : AllOk PR w K mg base (n + 3) κ.fn) (A2 : AllOk PR w K mg base (n + 2) κ.ini) (A3 : AllOk PR w K mg base n κ.low) : FnG PR w K mg base (n + 4) (adr K 1) (fdOf K (adr K 1)) (pst 1) (spG (wd K) (runDef κ d_law_of)) :=
  fn_def T.d1 sc_law_of rfl rfl fun cdv A outer s H E hr hn =>
    qs_one (q_ret (q_item (by rfl) (q_var 1) (q_call (A1 0) T.g__law_take (T.kp 0 (Option.some_ne_none _)) (T.bd 0 (Option.some_ne_none _)) takes_def hr hn (qa_cons (q_var 0) (qa_cons (q_callB s_len call_len (by rfl) T.f_len (by rfl) (qa_cons (q_var 1) (qa_nil))) (qa_nil))))))
theorem ok_law_pot (T : Top K mg) {n : Nat} {κ : Kap} (hκ : κ.shown = shownP) (A1 : AllOk PR w K mg base (n + 3) κ.fn) (A2 : AllOk PR w K mg base (n + 2) κ.ini) (A3 : AllOk PR w K mg base n κ.low) : FnG PR w K mg base (n + 4) (adr K 2) (fdOf K (adr K 2)) (pst 2) (spG (wd K) (runDef κ d_law_pot)) :=
  fn_def T.d2 sc_law_pot rfl rfl fun cdv A outer s H E hr hn =>
    qs_cons (q_set 2 sc_law_pot.nd (q_if (qt_cmp op_ltAll s_lt (q_var 1) (q_callB s_len call_len (by rfl) T.f_len (by rfl) (qa_cons (q_var 0) (qa_nil))) (nomark _)) (q_item (by rfl) (q_var 0) (q_var 1)) (q_2 op_addAll s_add (q_2 op_mulAll s_mul (q_int) (q_var 1)) (q_int)))) (
    qs_cons (q_set 3 sc_law_pot.nd (q_2 op_mulAll s_mul (q_2 op_mod s_mod (q_callTy s_int1 call_int1 (by rfl) T.f_int (by rfl) (qa_cons (q_callB s_abs call_abs (by rfl) T.f_abs (by rfl) (qa_cons (q_var 2) (qa_nil))) (qa_nil))) (q_2 op_powW s_pow (q_2 op_powW s_pow (q_int) (q_int)) (q_int))) (q_callTy s_int1 call_int1 (by rfl) T.f_int (by rfl) (qa_cons (q_cmp op_ge s_ge (q_callB s_abs call_abs (by rfl) T.f_abs (by rfl) (qa_cons (q_var 2) (qa_nil))) (q_2 op_powW s_pow (q_int) (q_int)) (nomark _)) (qa_nil))))) (
    qs_cons (q_set 4 sc_law_pot.nd (q_2 op_mod s_mod (q_callTy s_int1 call_int1 (by rfl) T.f_int (by rfl) (qa_cons (q_var 2) (qa_nil))) (q_int))) (
    qs_one (q_ret (q_lst (qa_cons (q_var 3) (qa_cons (q_2 op_mod s_mod (q_callTy s_int1 call_int1 (by rfl) T.f_int (by rfl) (qa_cons (q_2 op_addAll s_add (q_2 op_addAll s_add (q_2 op_mulAll s_mul (q_var 4) (q_int)) (q_2 op_mulAll s_mul (q_2 op_mulAll s_mul (q_int) (q_var 1)) (q_var 1))) (q_int)) (qa_nil))) (q_int)) (qa_cons (q_int) (qa_nil)))))))))
theorem ok_law_ordered (T : Top K mg) {n : Nat} {κ : Kap} (hκ : κ.shown = shownP) (A1 : AllOk PR w K mg base (n + 3) κ.fn) (A2 : AllOk PR w K mg base (n + 2) κ.ini) (A3 : AllOk PR w K mg base n κ.low) : FnG PR w K mg base (n + 4) (adr K 3) (fdOf K (adr K 3)) (pst 3) (spG (wd K) (runDef κ d_law_ordered)) :=
  fn_def T.d3 sc_law_ordered rfl rfl fun cdv A outer s H E hr hn =>
    qs_cons (q_set 1 sc_law_ordered.nd (q_lst (qa_nil))) (
    qs_cons (q_for passes_def (by rfl) (qi_list (by rfl) (q_var 0)) (qg_name 2 sc_law_ordered.nd) (qs_one (q_ifS (qt_cmp op_niAll s_notin (q_var 2) (q_var 1) rfl) (qs_cons (q_set 3 sc_law_ordered.nd (q_int)) (
    qs_cons (q_while passes_def ((qw_and (qt_cmp op_ltAll s_lt (q_var 3) (q_callB s_len call_len (by rfl) T.f_len (by rfl) (qa_cons (q_var 1) (qa_nil))) (nomark _)) (qw_and1 (qt_cmp op_ltAll s_lt (q_item (by rfl) (q_var 1) (q_var 3)) (q_var 2) (nomark _)))).pt) (qs_one (q_set 3 sc_law_ordered.nd (q_2 op_addAll s_add (q_var 3) (q_int))))) (
    qs_one (q_expr (q_insert (by rfl) (q_var 1) (q_var 3) (q_var 2)))))) (qs_nil)))) (
    qs_one (q_ret (q_var 1))))
theorem ok_law_word (T : Top K mg) {n : Nat} {κ : Kap} (hκ : κ.shown = shownP) (A1 : AllOk PR w K mg base (n + 3) κ.fn) (A2 : AllOk PR w K mg base (n + 2) κ.ini) (A3 : AllOk PR w K mg base n κ.low) : FnG PR w K mg base (n + 4) (adr K 4) (fdOf K (adr K 4)) (pst 4) (spG (wd K) (runDef κ d_law_word)) :=
  fn_def T.d4 sc_law_word rfl rfl fun cdv A outer s H E hr hn =>
    qs_cons (q_set 1 sc_law_word.nd (q_str [] (by first | rfl | decide +kernel) (by unfold okT; decide))) (
    qs_cons (q_for passes_def (by rfl) (qi_rng1 (by rfl) T.f_range (q_2 op_addAll s_add (q_int) (q_call (A1 0) T.g__law_take (T.kp 0 (Option.some_ne_none _)) (T.bd 0 (Option.some_ne_none _)) takes_def hr hn (qa_cons (q_var 0) (qa_cons (q_int) (qa_nil)))))) (qg_name 2 sc_law_word.nd) (qs_one (q_set 1 sc_law_word.nd (q_2 op_addAll s_add (q_var 1) (q_item (by rfl) (q_str [97, 98, 99, 100, 101, 102, 103, 104, 105, 106, 107, 108, 109, 110, 111, 112, 113, 114, 115, 116, 117, 118, 119, 120, 121, 122] (by first | rfl | decide +kernel) (by unfold okT; decide)) (q_call (A1 0) T.g__law_take (T.kp 0 (Option.some_ne_none _)) (T.bd 0 (Option.some_ne_none _)) takes_def hr hn (qa_cons (q_var 0) (qa_cons (q_int) (qa_nil))))))))) (
    qs_one (q_ret (q_2 op_addAll s_add (q_var 1) (q_2 op_mulAll s_mul (q_str [120] (by first | rfl | decide +kernel) (by unfold okT; decide)) (q_callTy s_int1 call_int1 (by rfl) T.f_int (by rfl) (qa_cons (q_cmp op_inAll s_in (q_var 1) (q_tup (qa_cons (q_str [110, 101, 120, 116] (by first | rfl | decide +kernel) (by unfold okT; decide)) (qa_cons (q_str [109, 111, 114, 101] (by first | rfl | decide +kernel) (by unfold okT; decide)) (qa_cons (q_str [110, 111, 116] (by first | rfl | decide +kernel) (by unfold okT; decide)) (qa_cons (q_str [115, 97, 109, 101] (by first | rfl | decide +kernel) (by unfold okT; decide)) (qa_cons (q_str [108, 101, 115, 115] (by first | rfl | decide +kernel) (by unfold okT; decide)) (qa_cons (q_str [97, 110, 100] (by first | rfl | decide +kernel) (by unfold okT; decide)) (qa_cons (q_str [111, 114] (by first | rfl | decide +kernel) (by unfold okT; decide)) (qa_nil))))))))) rfl) (qa_nil))))))))
theorem ok_law_odd (T : Top K mg) {n : Nat} {κ : Kap} (hκ : κ.shown = shownP) (A1 : AllOk PR w K mg base (n + 3) κ.fn) (A2 : AllOk PR w K mg base (n + 2) κ.ini) (A3 : AllOk PR w K mg base n κ.low) : FnG PR w K mg base (n + 4) (adr K 5) (fdOf K (adr K 5)) (pst 5) (spG (wd K) (runDef κ d_law_odd)) :=
  fn_def T.d5 sc_law_odd rfl rfl fun cdv A outer s H E hr hn =>
    qs_cons (q_set 1 sc_law_odd.nd (q_lst (qa_cons (q_non) (qa_cons (q_bl) (qa_cons (q_bl) (qa_cons (q_int) (qa_cons (q_int) (qa_cons (q_1 un_neg s_neg (q_int)) (qa_cons (q_int) (qa_cons (q_int) (qa_cons (q_int) (qa_cons (q_int) (qa_cons (q_1 un_neg s_neg (q_2 op_powW s_pow (q_int) (q_int))) (qa_cons (q_2 op_powW s_pow (q_int) (q_int)) (qa_cons (q_str [] (by first | rfl | decide +kernel) (by unfold okT; decide)) (qa_cons (q_str [97] (by first | rfl | decide +kernel) (by unfold okT; decide)) (qa_cons (q_str [120] (by first | rfl | decide +kernel) (by unfold okT; decide)) (qa_cons (q_str [108, 111, 103] (by first | rfl | decide +kernel) (by unfold okT; decide)) (qa_nil))))))))))))))))))) (
    qs_cons (q_expr (q_extend (by rfl) (q_var 1) (q_lst (qa_cons (q_str [76, 111, 103] (by first | rfl | decide +kernel) (by unfold okT; decide)) (qa_cons (q_str [97, 32, 98] (by first | rfl | decide +kernel) (by unfold okT; decide)) (qa_cons (q_str [115, 97, 109, 101] (by first | rfl | decide +kernel) (by unfold okT; decide)) (qa_cons (q_str [115, 116, 97, 110, 100, 115] (by first | rfl | decide +kernel) (by unfold okT; decide)) (qa_cons (q_str [112, 97, 114, 116, 115] (by first | rfl | decide +kernel) (by unfold okT; decide)) (qa_cons (q_str [97, 98, 99, 100, 101, 102, 103, 104] (by first | rfl | decide +kernel) (by unfold okT; decide)) (qa_cons (q_str [97, 98, 99, 100, 101, 102, 103, 104, 105] (by first | rfl | decide +kernel) (by unfold okT; decide)) (qa_cons (q_str [110, 101, 120, 116] (by first | rfl | decide +kernel) (by unfold okT; decide)) (qa_cons (q_tup (qa_nil)) (qa_cons (q_lst (qa_nil)) (qa_cons (q_dic0) (qa_nil))))))))))))))) (
    qs_cons (q_expr (q_extend (by rfl) (q_var 1) (q_lst (qa_cons (q_tup (qa_cons (q_str [108, 111, 103] (by first | rfl | decide +kernel) (by unfold okT; decide)) (qa_nil))) (qa_cons (q_lst (qa_cons (q_str [108, 111, 103] (by first | rfl | decide +kernel) (by unfold okT; decide)) (qa_nil))) (qa_cons (q_tup (qa_cons (q_str [98] (by first | rfl | decide +kernel) (by unfold okT; decide)) (qa_cons (q_str [97] (by first | rfl | decide +kernel) (by unfold okT; decide)) (qa_nil)))) (qa_cons (q_tup (qa_cons (q_str [97] (by first | rfl | decide +kernel) (by unfold okT; decide)) (qa_cons (q_str [97] (by first | rfl | decide +kernel) (by unfold okT; decide)) (qa_nil)))) (qa_cons (q_tup (qa_cons (q_str [97] (by first | rfl | decide +kernel) (by unfold okT; decide)) (qa_cons (q_str [98] (by first | rfl | decide +kernel) (by unfold okT; decide)) (qa_nil)))) (qa_cons (q_disp (pps_cons (q_str [97] (by first | rfl | decide +kernel) (by unfold okT; decide)) (q_int) (pps_nil))) (qa_cons (q_tup (qa_cons (q_tup (qa_nil)) (qa_cons (q_tup (qa_nil)) (qa_nil)))) (qa_cons (q_tup (qa_cons (q_tup (qa_nil)) (qa_cons (q_tup (qa_nil)) (qa_cons (q_tup (qa_nil)) (qa_nil))))) (qa_nil)))))))))))) (
    qs_cons (q_expr (q_extend (by rfl) (q_var 1) (q_lst (qa_cons (q_tup (qa_cons (q_str [115, 97, 109, 101] (by first | rfl | decide +kernel) (by unfold okT; decide)) (qa_cons (q_tup (qa_nil)) (qa_nil)))) (qa_cons (q_tup (qa_cons (q_str [112, 97, 114, 116, 115] (by first | rfl | decide +kernel) (by unfold okT; decide)) (qa_cons (q_tup (qa_nil)) (qa_nil)))) (qa_cons (q_tup (qa_cons (q_str [115, 116, 97, 110, 100, 115] (by first | rfl | decide +kernel) (by unfold okT; decide)) (qa_cons (q_tup (qa_cons (q_tup (qa_nil)) (qa_cons (q_tup (qa_nil)) (qa_nil)))) (qa_nil)))) (qa_cons (q_tup (qa_cons (q_tup (qa_cons (q_tup (qa_cons (q_tup (qa_cons (q_int) (qa_nil))) (qa_nil))) (qa_nil))) (qa_nil))) (qa_cons (q_lst (qa_cons (q_lst (qa_cons (q_tup (qa_cons (q_str [120] (by first | rfl | decide +kernel) (by unfold okT; decide)) (qa_cons (q_int) (qa_nil)))) (qa_nil))) (qa_cons (q_tup (qa_nil)) (qa_nil)))) (qa_nil))))))))) (
    qs_cons (q_expr (q_extend (by rfl) (q_var 1) (q_lst (qa_cons (q_tup (qa_cons (q_str [103, 111] (by first | rfl | decide +kernel) (by unfold okT; decide)) (qa_cons (q_tup (qa_nil)) (qa_nil)))) (qa_cons (q_tup (qa_cons (q_tup (qa_cons (q_str [103, 111] (by first | rfl | decide +kernel) (by unfold okT; decide)) (qa_cons (q_tup (qa_nil)) (qa_nil)))) (qa_nil))) (qa_cons (q_tup (qa_cons (q_int) (qa_nil))) (qa_cons (q_tup (qa_cons (q_bl) (qa_nil))) (qa_cons (q_tup (qa_cons (q_non) (qa_nil))) (qa_cons (q_tup (qa_cons (q_str [120] (by first | rfl | decide +kernel) (by unfold okT; decide)) (qa_cons (q_lst (qa_nil)) (qa_nil)))) (qa_nil)))))))))) (
    qs_one (q_ret (q_call (A1 1) T.g__law_of (T.kp 1 (Option.some_ne_none _)) (T.bd 1 (Option.some_ne_none _)) takes_def hr hn (qa_cons (q_var 0) (qa_cons (q_var 1) (qa_nil))))))))))
theorem ok_law_changed (T : Top K mg) {n : Nat} {κ : Kap} (hκ : κ.shown = shownP) (A1 : AllOk PR w K mg base (n + 3) κ.fn) (A2 : AllOk PR w K mg base (n + 2) κ.ini) (A3 : AllOk PR w K mg base n κ.low) : FnG PR w K mg base (n + 4) (adr K 6) (fdOf K (adr K 6)) (pst 6) (spG (wd K) (runDef κ d_law_changed)) :=
  fn_def T.d6 sc_law_changed rfl rfl fun cdv A outer s H E hr hn =>
    qs_cons (q_set 2 sc_law_changed.nd (q_call (A1 7) T.g__law_changed_in (T.kp 7 (Option.some_ne_none _)) (T.bd 7 (Option.some_ne_none _)) takes_def hr hn (qa_cons (q_var 0) (qa_cons (q_var 1) (qa_cons (q_int) (qa_nil)))))) (
    qs_one (q_ret (q_if (qt_cmp (op_neD hr.units) s_ne (q_callB (s_repr hκ) (call_reprD T.sysd hn (by have := hr.un; omega)) (by rfl) T.f_repr (by rfl) (qa_cons (q_var 2) (qa_nil))) (q_callB (s_repr hκ) (call_reprD T.sysd hn (by have := hr.un; omega)) (by rfl) T.f_repr (by rfl) (qa_cons (q_var 1) (qa_nil))) (nomark _)) (q_var 2) (q_tup (qa_cons (q_var 1) (qa_nil))))))
theorem ok_law_changed_in (T : Top K mg) {n : Nat} {κ : Kap} (hκ : κ.shown = shownP) (A1 : AllOk PR w K mg base (n + 3) κ.fn) (A2 : AllOk PR w K mg base (n + 2) κ.ini) (A3 : AllOk PR w K mg base n κ.low) : FnG PR w K mg base (n + 4) (adr K 7) (fdOf K (adr K 7)) (pst 7) (spG (wd K) (runDef κ d_law_changed_in)) :=
  fn_def T.d7 sc_law_changed_in rfl rfl fun cdv A outer s H E hr hn =>
    qs_cons (q_ifS (qt_not (qt_e (by rfl) (q_isa (W := wd K) (by rfl) T.cls T.ecs T.isa_tuple (.ty _) (by rfl) T.f_isinstance (q_var 1) (pe_bltn (by rfl) T.f_tuple (by rfl) rfl)))) (qs_one (q_ret (q_call (A1 9) T.g__law_changed_leaf (T.kp 9 (Option.some_ne_none _)) (T.bd 9 (Option.some_ne_none _)) takes_def hr hn (qa_cons (q_var 0) (qa_cons (q_var 1) (qa_nil)))))) (qs_nil)) (
    qs_cons (q_ifS ((qw_or (qt_cmp (op_eqD hr.units) s_eq (q_var 1) (q_tup (qa_nil)) (nomark _)) (qw_or (qt_cmp op_gt s_gt (q_var 2) (q_int) (nomark _)) (qw_or1 (qt_cmp (op_eqD hr.units) s_eq (q_call (A1 0) T.g__law_take (T.kp 0 (Option.some_ne_none _)) (T.bd 0 (Option.some_ne_none _)) takes_def hr hn (qa_cons (q_var 0) (qa_cons (q_int) (qa_nil)))) (q_int) (nomark _))))).pt) (qs_one (q_ret (q_call (A1 8) T.g__law_changed_row (T.kp 8 (Option.some_ne_none _)) (T.bd 8 (Option.some_ne_none _)) takes_def hr hn (qa_cons (q_var 0) (qa_cons (q_var 1) (qa_nil)))))) (qs_nil)) (
    qs_cons (q_set 3 sc_law_changed_in.nd (q_call (A1 0) T.g__law_take (T.kp 0 (Option.some_ne_none _)) (T.bd 0 (Option.some_ne_none _)) takes_def hr hn (qa_cons (q_var 0) (qa_cons (q_callB s_len call_len (by rfl) T.f_len (by rfl) (qa_cons (q_var 1) (qa_nil))) (qa_nil))))) (
    qs_one (q_ret (q_2 op_addAll s_add (q_2 op_addAll s_add (q_slice (by rfl) (q_var 1) (qo_none) (qo_some (q_var 3))) (q_tup (qa_cons (q_call (A1 7) T.g__law_changed_in (T.kp 7 (Option.some_ne_none _)) (T.bd 7 (Option.some_ne_none _)) takes_def hr hn (qa_cons (q_var 0) (qa_cons (q_item (by rfl) (q_var 1) (q_var 3)) (qa_cons (q_2 op_addAll s_add (q_var 2) (q_int)) (qa_nil))))) (qa_nil)))) (q_slice (by rfl) (q_var 1) (qo_some (q_2 op_addAll s_add (q_var 3) (q_int))) (qo_none)))))))
theorem ok_law_changed_row (T : Top K mg) {n : Nat} {κ : Kap} (hκ : κ.shown = shownP) (A1 : AllOk PR w K mg base (n + 3) κ.fn) (A2 : AllOk PR w K mg base (n + 2) κ.ini) (A3 : AllOk PR w K mg base n κ.low) : FnG PR w K mg base (n + 4) (adr K 8) (fdOf K (adr K 8)) (pst 8) (spG (wd K) (runDef κ d_law_changed_row)) :=
  fn_def T.d8 sc_law_changed_row rfl rfl fun cdv A outer s H E hr hn =>
    qs_cons (q_par 2 3 (by rfl) sc_law_changed_row.nd (q_call (A1 0) T.g__law_take (T.kp 0 (Option.some_ne_none _)) (T.bd 0 (Option.some_ne_none _)) takes_def hr hn (qa_cons (q_var 0) (qa_cons (q_int) (qa_nil)))) (q_call (A1 0) T.g__law_take (T.kp 0 (Option.some_ne_none _)) (T.bd 0 (Option.some_ne_none _)) takes_def hr hn (qa_cons (q_var 0) (qa_cons (q_2 op_addAll s_add (q_callB s_len call_len (by rfl) T.f_len (by rfl) (qa_cons (q_var 1) (qa_nil))) (q_int)) (qa_nil)))) (by rfl)) (
    qs_cons (q_ifS ((qw_and (qt_cmp (op_eqD hr.units) s_eq (q_var 2) (q_int) (nomark _)) (qw_and1 (qt_cmp (op_neD hr.units) s_ne (q_var 1) (q_tup (qa_nil)) (nomark _)))).pt) (qs_one (q_ret (q_if (qt_cmp op_ltAll s_lt (q_var 3) (q_callB s_len call_len (by rfl) T.f_len (by rfl) (qa_cons (q_var 1) (qa_nil))) (nomark _)) (q_2 op_addAll s_add (q_slice (by rfl) (q_var 1) (qo_none) (qo_some (q_var 3))) (q_slice (by rfl) (q_var 1) (qo_some (q_2 op_addAll s_add (q_var 3) (q_int))) (qo_none))) (q_slice (by rfl) (q_var 1) (qo_none) (qo_some (q_1 un_neg s_neg (q_int))))))) (qs_nil)) (
    qs_cons (q_ifS (qt_cmp (op_eqD hr.units) s_eq (q_var 2) (q_int) (nomark _)) (qs_one (q_ret (q_2 op_addAll s_add (q_2 op_addAll s_add (q_slice (by rfl) (q_var 1) (qo_none) (qo_some (q_var 3))) (q_slice (by rfl) (q_var 1) (qo_some (q_var 3)) (qo_some (q_2 op_addAll s_add (q_var 3) (q_int))))) (q_slice (by rfl) (q_var 1) (qo_some (q_var 3)) (qo_none))))) (qs_nil)) (
    qs_cons (q_ifS (qt_cmp (op_eqD hr.units) s_eq (q_var 2) (q_int) (nomark _)) (qs_one (q_ret (q_back (by rfl) (q_var 1)))) (qs_nil)) (
    qs_cons (q_ifS (qt_cmp (op_eqD hr.units) s_eq (q_var 2) (q_int) (nomark _)) (qs_one (q_ret (q_callTy s_list call_list_of (by rfl) T.f_list (by rfl) (qa_cons (q_var 1) (qa_nil))))) (qs_nil)) (
    qs_cons (q_ifS (qt_cmp (op_eqD hr.units) s_eq (q_var 2) (q_int) (nomark _)) (qs_one (q_ret (q_2 op_addAll s_add (q_2 op_addAll s_add (q_slice (by rfl) (q_var 1) (qo_none) (qo_some (q_var 3))) (q_tup (qa_cons (q_call (A1 5) T.g__law_odd (T.kp 5 (Option.some_ne_none _)) (T.bd 5 (Option.some_ne_none _)) takes_def hr hn (qa_cons (q_var 0) (qa_nil))) (qa_nil)))) (q_slice (by rfl) (q_var 1) (qo_some (q_var 3)) (qo_none))))) (qs_nil)) (
    qs_cons (q_ifS ((qw_and (qt_cmp (op_eqD hr.units) s_eq (q_var 2) (q_int) (nomark _)) (qw_and1 (qt_cmp op_ltAll s_lt (q_2 op_addAll s_add (q_var 3) (q_int)) (q_callB s_len call_len (by rfl) T.f_len (by rfl) (qa_cons (q_var 1) (qa_nil))) (nomark _)))).pt) (qs_one (q_ret (q_2 op_addAll s_add (q_2 op_addAll s_add (q_slice (by rfl) (q_var 1) (qo_none) (qo_some (q_var 3))) (q_tup (qa_cons (q_item (by rfl) (q_var 1) (q_2 op_addAll s_add (q_var 3) (q_int))) (qa_cons (q_item (by rfl) (q_var 1) (q_var 3)) (qa_nil))))) (q_slice (by rfl) (q_var 1) (qo_some (q_2 op_addAll s_add (q_var 3) (q_int))) (qo_none))))) (qs_nil)) (
    qs_cons (q_ifS ((qw_and (qt_cmp (op_eqD hr.units) s_eq (q_var 2) (q_int) (nomark _)) (qw_and1 (qt_cmp (op_neD hr.units) s_ne (q_var 1) (q_tup (qa_nil)) (nomark _)))).pt) (qs_one (q_ret (q_2 op_addAll s_add (q_2 op_addAll s_add (q_slice (by rfl) (q_var 1) (qo_none) (qo_some (q_var 3))) (q_tup (qa_cons (q_call (A1 1) T.g__law_of (T.kp 1 (Option.some_ne_none _)) (T.bd 1 (Option.some_ne_none _)) takes_def hr hn (qa_cons (q_var 0) (qa_cons (q_var 1) (qa_nil)))) (qa_nil)))) (q_slice (by rfl) (q_var 1) (qo_some (q_var 3)) (qo_none))))) (qs_nil)) (
    qs_one (q_ret (q_if (qt_cmp (op_eqD hr.units) s_eq (q_var 2) (q_int) (nomark _)) (q_slice (by rfl) (q_var 1) (qo_some (q_int)) (qo_none)) (q_call (A1 5) T.g__law_odd (T.kp 5 (Option.some_ne_none _)) (T.bd 5 (Option.some_ne_none _)) takes_def hr hn (qa_cons (q_var 0) (qa_nil)))))))))))))
theorem ok_law_changed_leaf (T : Top K mg) {n : Nat} {κ : Kap} (hκ : κ.shown = shownP) (A1 : AllOk PR w K mg base (n + 3) κ.fn) (A2 : AllOk PR w K mg base (n + 2) κ.ini) (A3 : AllOk PR w K mg base n κ.low) : FnG PR w K mg base (n + 4) (adr K 9) (fdOf K (adr K 9)) (pst 9) (spG (wd K) (runDef κ d_law_changed_leaf)) :=
  fn_def T.d9 sc_law_changed_leaf rfl rfl fun cdv A outer s H E hr hn =>
    qs_cons (q_set 2 sc_law_changed_leaf.nd (q_call (A1 0) T.g__law_take (T.kp 0 (Option.some_ne_none _)) (T.bd 0 (Option.some_ne_none _)) takes_def hr hn (qa_cons (q_var 0) (qa_cons (q_int) (qa_nil))))) (
    qs_cons (q_ifS ((qw_or (qt_e (by rfl) (q_isa (W := wd K) (by rfl) T.cls T.ecs T.isa_bool (.ty _) (by rfl) T.f_isinstance (q_var 1) (pe_bltn (by rfl) T.f_bool (by rfl) rfl))) (qw_or1 (qt_not (qt_e (by rfl) (q_isa2 (W := wd K) (by rfl) T.cls T.isa_int T.isa_str (.ty _) (.ty _) (by rfl) T.f_isinstance (q_var 1) (pe_bltn (by rfl) T.f_int (by rfl) rfl) (pe_bltn (by rfl) T.f_str (by rfl) rfl)))))).pt) (qs_one (q_ret (q_call (A1 5) T.g__law_odd (T.kp 5 (Option.some_ne_none _)) (T.bd 5 (Option.some_ne_none _)) takes_def hr hn (qa_cons (q_var 0) (qa_nil))))) (qs_nil)) (
    qs_cons (q_ifS (qt_e (by rfl) (q_isa (W := wd K) (by rfl) T.cls T.ecs T.isa_int (.ty _) (by rfl) T.f_isinstance (q_var 1) (pe_bltn (by rfl) T.f_int (by rfl) rfl))) (qs_cons (q_set 3 sc_law_changed_leaf.nd (q_lst (qa_cons (q_2 op_addAll s_add (q_var 1) (q_int)) (qa_cons (q_2 op_sub s_sub (q_var 1) (q_int)) (qa_cons (q_2 op_sub s_sub (q_1 un_neg s_neg (q_int)) (q_var 1)) (qa_cons (q_cmp (op_eqD hr.units) s_eq (q_var 1) (q_int) (nomark _)) (qa_cons (q_callTy s_str1 call_str1 (by rfl) T.f_str (by rfl) (qa_cons (q_var 1) (qa_nil))) (qa_cons (q_tup (qa_cons (q_var 1) (qa_nil))) (qa_cons (q_2 op_addAll s_add (q_var 1) (q_2 op_powW s_pow (q_int) (q_int))) (qa_nil)))))))))) (
    qs_one (q_ret (q_if (qt_cmp op_ltAll s_lt (q_var 2) (q_int) (nomark _)) (q_item (by rfl) (q_var 3) (q_var 2)) (q_call (A1 5) T.g__law_odd (T.kp 5 (Option.some_ne_none _)) (T.bd 5 (Option.some_ne_none _)) takes_def hr hn (qa_cons (q_var 0) (qa_nil))))))) (qs_nil)) (
    qs_cons (q_set 3 sc_law_changed_leaf.nd (q_lst (qa_cons (q_2 op_addAll s_add (q_var 1) (q_str [120] (by first | rfl | decide +kernel) (by unfold okT; decide))) (qa_cons (q_slice (by rfl) (q_var 1) (qo_none) (qo_some (q_1 un_neg s_neg (q_int)))) (qa_cons (q_slice (by rfl) (q_var 1) (qo_some (q_int)) (qo_none)) (qa_cons (q_upper (q_var 1)) (qa_cons (q_tup (qa_cons (q_var 1) (qa_nil))) (qa_cons (q_2 op_addAll s_add (q_str [120] (by first | rfl | decide +kernel) (by unfold okT; decide)) (q_var 1)) (qa_cons (q_2 op_addAll s_add (q_var 1) (q_str [32] (by first | rfl | decide +kernel) (by unfold okT; decide))) (qa_nil)))))))))) (
    qs_one (q_ret (q_if (qt_cmp op_ltAll s_lt (q_var 2) (q_int) (nomark _)) (q_item (by rfl) (q_var 3) (q_var 2)) (q_call (A1 5) T.g__law_odd (T.kp 5 (Option.some_ne_none _)) (T.bd 5 (Option.some_ne_none _)) takes_def hr hn (qa_cons (q_var 0) (qa_nil)))))))))
theorem ok_is_name (T : Top K mg) {n : Nat} {κ : Kap} (hκ : κ.shown = shownP) (A1 : AllOk PR w K mg base (n + 3) κ.fn) (A2 : AllOk PR w K mg base (n + 2) κ.ini) (A3 : AllOk PR w K mg base n κ.low) : FnG PR w K mg base (n + 4) (adr K 10) (fdOf K (adr K 10)) (pst 10) (spG (wd K) (runDef κ d_is_name)) :=
  fn_def T.d10 sc_is_name rfl rfl fun cdv A outer s H E hr hn =>
    qs_cons (q_ifS ((qw_or (qt_not (qt_e (by rfl) (q_isa (W := wd K) (by rfl) T.cls T.ecs T.isa_str (.ty _) (by rfl) T.f_isinstance (q_var 0) (pe_bltn (by rfl) T.f_str (by rfl) rfl)))) (qw_or (qt_not (qt_chain op_le op_le s_le s_le (q_int) (q_callB s_len call_len (by rfl) T.f_len (by rfl) (qa_cons (q_var 0) (qa_nil))) ((T.c_MOST_LETTERS).elim fun u hu => hu.elim fun v hv => q_glob (by rfl) hv.1 hv.2.1 hv.2.2))) (qw_or1 (qt_cmp op_inAll s_in (q_var 0) ((T.c_TAKEN_WORDS).elim fun u hu => hu.elim fun v hv => q_glob (by rfl) hv.1 hv.2.1 hv.2.2) rfl)))).pt) (qs_one (q_ret (q_bl))) (qs_nil)) (
    qs_one (q_ret (q_callB s_all (cr_all (by rfl)) (by rfl) T.f_all (by rfl) (qa_cons (q_lc [("letter", 1)] (by rfl) sc_is_name.nd (qi_str (q_var 0)) (by exact (show BlkOk ["value", "letter"] (defScope st_is_name) _ _ from ⟨rfl, by decide +kernel, by decide +kernel, by decide +kernel, by decide +kernel⟩)) (fun _ _ _ _ _ => qg_name 1 sc_is_name.nd (fun _ _ => wipe_own (by decide))) (fun _ _ _ _ _ => qts_nil) (fun _ _ _ _ _ => q_cmp op_inAll s_in (q_var 1) ((T.c_LETTERS).elim fun u hu => hu.elim fun v hv => q_glob (by rfl) hv.1 hv.2.1 hv.2.2) rfl)) (qa_nil)))))
theorem ok_is_ascending (T : Top K mg) {n : Nat} {κ : Kap} (hκ : κ.shown = shownP) (A1 : AllOk PR w K mg base (n + 3) κ.fn) (A2 : AllOk PR w K mg base (n + 2) κ.ini) (A3 : AllOk PR w K mg base n κ.low) : FnG PR w K mg base (n + 4) (adr K 11) (fdOf K (adr K 11)) (pst 11) (spG (wd K) (runDef κ d_is_ascending)) :=
  fn_def T.d11 sc_is_ascending rfl rfl fun cdv A outer s H E hr hn =>
    qs_one (q_ret (q_callB s_all (cr_all (by rfl)) (by rfl) T.f_all (by rfl) (qa_cons (q_lc [("one", 1), ("other", 2)] (by rfl) sc_is_ascending.nd (qi_zipT (by rfl) (by rfl) T.f_zip (q_var 0) (q_slice (by rfl) (q_var 0) (qo_some (q_int)) (qo_none))) (by exact (show BlkOk ["rows", "one", "other"] (defScope st_is_ascending) _ _ from ⟨rfl, by decide +kernel, by decide +kernel, by decide +kernel, by decide +kernel⟩)) (fun _ _ _ _ _ => qg_tup (by rfl) (by rfl) (qgs_cons (qg_name 1 sc_is_ascending.nd (fun _ _ => wipe_own (by decide))) (qgs_cons (qg_name 2 sc_is_ascending.nd (fun _ _ => wipe_own (by decide))) (qgs_nil (fun _ => rfl)) (fun _ _ _ a b => b.trans a)) (fun _ _ _ a b => b.trans a))) (fun _ _ _ _ _ => qts_nil) (fun _ _ _ _ _ => q_cmp op_ltAll s_lt (q_var 1) (q_var 2) (nomark _))) (qa_nil))))
theorem ok_are_kinds (T : Top K mg) {n : Nat} {κ : Kap} (hκ : κ.shown = shownP) (A1 : AllOk PR w K mg base (n + 3) κ.fn) (A2 : AllOk PR w K mg base (n + 2) κ.ini) (A3 : AllOk PR w K mg base n κ.low) : FnG PR w K mg base (n + 4) (adr K 12) (fdOf K (adr K 12)) (pst 12) (spG (wd K) (runDef κ d_are_kinds)) :=
  fn_def T.d12 sc_are_kinds rfl rfl fun cdv A outer s H E hr hn =>
    qs_one (q_ret (q_and (q_isa (W := wd K) (by rfl) T.cls T.ecs T.isa_tuple (.ty _) (by rfl) T.f_isinstance (q_var 0) (pe_bltn (by rfl) T.f_tuple (by rfl) rfl)) (q_and (q_callB s_all (cr_all (by rfl)) (by rfl) T.f_all (by rfl) (qa_cons (q_lc [("kind", 1)] (by rfl) sc_are_kinds.nd (qi_tup (by rfl) (q_var 0)) (by exact (show BlkOk ["value", "kind"] (defScope st_are_kinds) _ _ from ⟨rfl, by decide +kernel, by decide +kernel, by decide +kernel, by decide +kernel⟩)) (fun _ _ _ _ _ => qg_name 1 sc_are_kinds.nd (fun _ _ => wipe_own (by decide))) (fun _ _ _ _ _ => qts_nil) (fun _ _ _ _ _ => q_call (A1 10) T.g_is_name (T.kp 10 (Option.some_ne_none _)) (T.bd 10 (Option.some_ne_none _)) takes_none hr hn (qa_cons (q_var 1) (qa_nil)))) (qa_nil))) (q_and1 (q_call (A1 11) T.g_is_ascending (T.kp 11 (Option.some_ne_none _)) (T.bd 11 (Option.some_ne_none _)) takes_def hr hn (qa_cons (q_var 0) (qa_nil)))))))
theorem ok_Build_init (T : Top K mg) {n : Nat} {κ : Kap} (hκ : κ.shown = shownP) (A1 : AllOk PR w K mg base (n + 3) κ.fn) (A2 : AllOk PR w K mg base (n + 2) κ.ini) (A3 : AllOk PR w K mg base n κ.low) : FnG PR w K mg base (n + 4) (adr K 13) (fdOf K (adr K 13)) (pst 13) (spG (wd K) (runDef κ d_Build_init)) :=
  fn_def T.d13 sc_Build_init rfl rfl fun cdv A outer s H E hr hn =>
    qs_cons (q_ifS (qt_not (qt_e (by rfl) (q_call (A1 12) T.g_are_kinds (T.kp 12 (Option.some_ne_none _)) (T.bd 12 (Option.some_ne_none _)) takes_def hr hn (qa_cons (q_var 1) (qa_nil))))) (qs_one (q_raise (C := ga K "BadKinds") rfl (T.mke_BadKinds) hr (by rfl) T.g_BadKinds (q_var 1) rfl rfl takes_def)) (qs_nil)) (
    qs_one (q_attr (W := wd K) (fn := "own_kinds") (by rfl) (fun _ _ => fld_inj) T.cls T.na_own_kinds (q_var 0) (q_var 1)))
theorem ok_Build_kinds (T : Top K mg) {n : Nat} {κ : Kap} (hκ : κ.shown = shownP) (A1 : AllOk PR w K mg base (n + 3) κ.fn) (A2 : AllOk PR w K mg base (n + 2) κ.ini) (A3 : AllOk PR w K mg base n κ.low) : FnG PR w K mg base (n + 4) (adr K 14) (fdOf K (adr K 14)) (pst 14) (spG (wd K) (runDef κ d_Build_kinds)) :=
  fn_def T.d14 sc_Build_kinds rfl rfl fun cdv A outer s H E hr hn =>
    qs_one (q_ret (q_fld (W := wd K) (f := "own_kinds") (by rfl) (fun _ _ => fld_inj) T.cls T.na_own_kinds (q_var 0)))
theorem ok_Build_eq (T : Top K mg) {n : Nat} {κ : Kap} (hκ : κ.shown = shownP) (A1 : AllOk PR w K mg base (n + 3) κ.fn) (A2 : AllOk PR w K mg base (n + 2) κ.ini) (A3 : AllOk PR w K mg base n κ.low) : FnG PR w K mg base (n + 4) (adr K 15) (fdOf K (adr K 15)) (pst 15) (spG (wd K) (runDef κ d_Build_eq)) :=
  fn_def T.d15 sc_Build_eq rfl rfl fun cdv A outer s H E hr hn =>
    qs_one (q_ret (q_and (q_isa (W := wd K) (by rfl) T.cls T.ecs T.isa_Build (.own _) (by rfl) T.f_isinstance (q_var 1) (pe_glob (by rfl) T.g_Build rfl)) (q_and1 (q_cmp (op_eqD hr.units) s_eq (q_fld (W := wd K) (f := "own_kinds") (by rfl) (fun _ _ => fld_inj) T.cls T.na_own_kinds (q_var 0)) (q_fld (W := wd K) (f := "own_kinds") (by rfl) (fun _ _ => fld_inj) T.cls T.na_own_kinds (q_var 1)) (nomark _)))))
theorem ok_Build_contains (T : Top K mg) {n : Nat} {κ : Kap} (hκ : κ.shown = shownP) (A1 : AllOk PR w K mg base (n + 3) κ.fn) (A2 : AllOk PR w K mg base (n + 2) κ.ini) (A3 : AllOk PR w K mg base n κ.low) : FnG PR w K mg base (n + 4) (adr K 16) (fdOf K (adr K 16)) (pst 16) (spG (wd K) (runDef κ d_Build_contains)) :=
  fn_def T.d16 sc_Build_contains rfl rfl fun cdv A outer s H E hr hn =>
    qs_one (q_ret (q_and (q_isa (W := wd K) (by rfl) T.cls T.ecs T.isa_str (.ty _) (by rfl) T.f_isinstance (q_var 1) (pe_bltn (by rfl) T.f_str (by rfl) rfl)) (q_and1 (q_cmp op_inAll s_in (q_var 1) (q_fld (W := wd K) (f := "own_kinds") (by rfl) (fun _ _ => fld_inj) T.cls T.na_own_kinds (q_var 0)) rfl))))
theorem ok_law_is_name (T : Top K mg) {n : Nat} {κ : Kap} (hκ : κ.shown = shownP) (A1 : AllOk PR w K mg base (n + 3) κ.fn) (A2 : AllOk PR w K mg base (n + 2) κ.ini) (A3 : AllOk PR w K mg base n κ.low) : FnG PR w K mg base (n + 4) (adr K 17) (fdOf K (adr K 17)) (pst 17) (spG (wd K) (runDef κ d_law_is_name)) :=
  fn_def T.d17 sc_law_is_name rfl rfl fun cdv A outer s H E hr hn =>
    qs_cons (q_ifS ((qw_or (qt_not (qt_e (by rfl) (q_isa (W := wd K) (by rfl) T.cls T.ecs T.isa_str (.ty _) (by rfl) T.f_isinstance (q_var 0) (pe_bltn (by rfl) T.f_str (by rfl) rfl)))) (qw_or (qt_cmp op_ltAll s_lt (q_callB s_len call_len (by rfl) T.f_len (by rfl) (qa_cons (q_var 0) (qa_nil))) (q_int) (nomark _)) (qw_or1 (qt_cmp op_gt s_gt (q_callB s_len call_len (by rfl) T.f_len (by rfl) (qa_cons (q_var 0) (qa_nil))) (q_int) (nomark _))))).pt) (qs_one (q_ret (q_bl))) (qs_nil)) (
    qs_cons (q_ifS (qt_cmp op_inAll s_in (q_var 0) (q_tup (qa_cons (q_str [110, 101, 120, 116] (by first | rfl | decide +kernel) (by unfold okT; decide)) (qa_cons (q_str [109, 111, 114, 101] (by first | rfl | decide +kernel) (by unfold okT; decide)) (qa_cons (q_str [110, 111, 116] (by first | rfl | decide +kernel) (by unfold okT; decide)) (qa_cons (q_str [115, 97, 109, 101] (by first | rfl | decide +kernel) (by unfold okT; decide)) (qa_cons (q_str [108, 101, 115, 115] (by first | rfl | decide +kernel) (by unfold okT; decide)) (qa_cons (q_str [97, 110, 100] (by first | rfl | decide +kernel) (by unfold okT; decide)) (qa_cons (q_str [111, 114] (by first | rfl | decide +kernel) (by unfold okT; decide)) (qa_nil))))))))) rfl) (qs_one (q_ret (q_bl))) (qs_nil)) (
    qs_one (q_ret (q_callB s_all (cr_all (by rfl)) (by rfl) T.f_all (by rfl) (qa_cons (q_lc [("_law_letter", 1)] (by rfl) sc_law_is_name.nd (qi_str (q_var 0)) (by exact (show BlkOk ["_law_value", "_law_letter"] (defScope st_law_is_name) _ _ from ⟨rfl, by decide +kernel, by decide +kernel, by decide +kernel, by decide +kernel⟩)) (fun _ _ _ _ _ => qg_name 1 sc_law_is_name.nd (fun _ _ => wipe_own (by decide))) (fun _ _ _ _ _ => qts_nil) (fun _ _ _ _ _ => q_cmp op_inAll s_in (q_var 1) (q_str [97, 98, 99, 100, 101, 102, 103, 104, 105, 106, 107, 108, 109, 110, 111, 112, 113, 114, 115, 116, 117, 118, 119, 120, 121, 122] (by first | rfl | decide +kernel) (by unfold okT; decide)) rfl)) (qa_nil))))))
theorem ok_law_are_kinds (T : Top K mg) {n : Nat} {κ : Kap} (hκ : κ.shown = shownP) (A1 : AllOk PR w K mg base (n + 3) κ.fn) (A2 : AllOk PR w K mg base (n + 2) κ.ini) (A3 : AllOk PR w K mg base n κ.low) : FnG PR w K mg base (n + 4) (adr K 18) (fdOf K (adr K 18)) (pst 18) (spG (wd K) (runDef κ d_law_are_kinds)) :=
  fn_def T.d18 sc_law_are_kinds rfl rfl fun cdv A outer s H E hr hn =>
    qs_cons (q_ifS ((qw_or (qt_not (qt_e (by rfl) (q_isa (W := wd K) (by rfl) T.cls T.ecs T.isa_tuple (.ty _) (by rfl) T.f_isinstance (q_var 0) (pe_bltn (by rfl) T.f_tuple (by rfl) rfl)))) (qw_or1 (qt_not (qt_e (by rfl) (q_callB s_all (cr_all (by rfl)) (by rfl) T.f_all (by rfl) (qa_cons (q_lc [("_law_one", 2)] (by rfl) sc_law_are_kinds.nd (qi_tup (by rfl) (q_var 0)) (by exact (show BlkOk ["_law_value", "_law_at", "_law_one"] (defScope st_law_are_kinds) _ _ from ⟨rfl, by decide +kernel, by decide +kernel, by decide +kernel, by decide +kernel⟩)) (fun _ _ _ _ _ => qg_name 2 sc_law_are_kinds.nd (fun _ _ => wipe_own (by decide))) (fun _ _ _ _ _ => qts_nil) (fun _ _ _ _ _ => q_call (A1 17) T.g__law_is_name (T.kp 17 (Option.some_ne_none _)) (T.bd 17 (Option.some_ne_none _)) takes_none hr hn (qa_cons (q_var 2) (qa_nil)))) (qa_nil))))))).pt) (qs_one (q_ret (q_bl))) (qs_nil)) (
    qs_one (q_ret (q_callB s_all (cr_all (by rfl)) (by rfl) T.f_all (by rfl) (qa_cons (q_lc [("_law_at", 1)] (by rfl) sc_law_are_kinds.nd (qi_rng1 (by rfl) T.f_range (q_2 op_sub s_sub (q_callB s_len call_len (by rfl) T.f_len (by rfl) (qa_cons (q_var 0) (qa_nil))) (q_int))) (by exact (show BlkOk ["_law_value", "_law_at", "_law_one"] (defScope st_law_are_kinds) _ _ from ⟨rfl, by decide +kernel, by decide +kernel, by decide +kernel, by decide +kernel⟩)) (fun _ _ _ _ _ => qg_name 1 sc_law_are_kinds.nd (fun _ _ => wipe_own (by decide))) (fun _ _ _ _ _ => qts_nil) (fun _ _ _ _ _ => q_cmp op_ltAll s_lt (q_item (by rfl) (q_var 0) (q_var 1)) (q_item (by rfl) (q_var 0) (q_2 op_addAll s_add (q_var 1) (q_int))) (nomark _))) (qa_nil)))))
theorem ok_law_told (T : Top K mg) {n : Nat} {κ : Kap} (hκ : κ.shown = shownP) (A1 : AllOk PR w K mg base (n + 3) κ.fn) (A2 : AllOk PR w K mg base (n + 2) κ.ini) (A3 : AllOk PR w K mg base n κ.low) : FnG PR w K mg base (n + 4) (adr K 19) (fdOf K (adr K 19)) (pst 19) (spG (wd K) (runDef κ d_law_told)) :=
  fn_def T.d19 sc_law_told rfl rfl fun cdv A outer s H E hr hn =>
    qs_one (q_try (W := wd K) rfl rfl rfl takes_def (fun _ _ _ tk0 pw0 => qs_one (q_ret (q_tup (qa_cons (q_prop (f := adr K 14) (by rfl) (T.cls 0).cl T.prop_Build_kinds (A2 14) (T.bd 14 (Option.some_ne_none _)) hr hn (q_new (W := wd K) (c := 0) (f := adr K 13) T.mk_Build (A2 13) T.g_Build (T.bd 13 (Option.some_ne_none _)) tk0 hr hn (qa_cons (q_var 0) (qa_nil)))) (qa_cons (q_str [107, 105, 110, 100, 115] (by first | rfl | decide +kernel) (by unfold okT; decide)) (qa_nil)))))) (HdsE.nam sc_law_told.nd (i := 1) rfl (by first | exact rfl | decide +kernel) ⟨by rfl, by decide, .inl T.g_BadKinds⟩ (fun _ _ => qs_one (q_ret (q_tup (qa_cons (q_errval (by rfl) T.ecs rfl (q_var 1)) (qa_cons (q_str [110, 111, 110, 101] (by first | rfl | decide +kernel) (by unfold okT; decide)) (qa_nil)))))) (HdsE.nil)) (HdsS.cons (d := ⟨fun c => sub c 1000, some 1, s_ret (e_tup (a_cons (e_1 o_errval (e_var 1)) (a_cons (e_c (.str [110, 111, 110, 101])) (a_nil))))⟩) T.exm_BadKinds (HdsS.nil)))
theorem ok_law_base (T : Top K mg) {n : Nat} {κ : Kap} (hκ : κ.shown = shownP) (A1 : AllOk PR w K mg base (n + 3) κ.fn) (A2 : AllOk PR w K mg base (n + 2) κ.ini) (A3 : AllOk PR w K mg base n κ.low) : FnG PR w K mg base (n + 4) (adr K 20) (fdOf K (adr K 20)) (pst 20) (spG (wd K) (runDef κ d_law_base)) :=
  fn_def T.d20 sc_law_base rfl rfl fun cdv A outer s H E hr hn =>
    qs_cons (q_try (W := wd K) rfl rfl rfl takes_def (fun _ _ _ tk0 pw0 => qs_one (q_expr (q_new (W := wd K) (c := 0) (f := adr K 13) T.mk_Build (A2 13) T.g_Build (T.bd 13 (Option.some_ne_none _)) tk0 hr hn (qa_cons (q_var 0) (qa_nil))))) (HdsE.one ⟨by rfl, by decide, .inl T.g_BadLine⟩ (fun _ _ => qs_one (q_ret (q_bl))) (HdsE.nam sc_law_base.nd (i := 1) rfl (by first | exact rfl | decide +kernel) ⟨by rfl, by decide, .inl T.g_SparedError⟩ (fun _ _ => qs_one (q_ret (q_and (q_isa (W := wd K) (by rfl) T.cls T.ecs T.isa_ValueError (.ty _) (by rfl) T.f_isinstance (q_var 1) (pe_bltn (by rfl) T.f_ValueError (by rfl) rfl)) (q_and1 (q_isa (W := wd K) (by rfl) T.cls T.ecs T.isa_BadKinds (.own _) (by rfl) T.f_isinstance (q_var 1) (pe_glob (by rfl) T.g_BadKinds rfl)))))) (HdsE.nil))) (HdsS.cons (d := ⟨fun c => sub c 1001, none, s_ret (e_c (.bl false))⟩) T.exm_BadLine (HdsS.cons (d := ⟨fun c => sub c 1002, some 1, s_ret (e_and (e_1 (o_isa sub .tVal) (e_var 1)) (e_1 (o_isa sub (.eown 0)) (e_var 1)))⟩) T.exm_SparedError (HdsS.nil)))) (
    qs_one (q_ret (q_bl)))
theorem ok_law_no_name (T : Top K mg) {n : Nat} {κ : Kap} (hκ : κ.shown = shownP) (A1 : AllOk PR w K mg base (n + 3) κ.fn) (A2 : AllOk PR w K mg base (n + 2) κ.ini) (A3 : AllOk PR w K mg base n κ.low) : FnG PR w K mg base (n + 4) (adr K 21) (fdOf K (adr K 21)) (pst 21) (spG (wd K) (runDef κ d_law_no_name)) :=
  fn_def T.d21 sc_law_no_name rfl rfl fun cdv A outer s H E hr hn =>
    qs_cons (q_set 1 sc_law_no_name.nd (q_2 op_addAll s_add (q_call (A1 4) T.g__law_word (T.kp 4 (Option.some_ne_none _)) (T.bd 4 (Option.some_ne_none _)) takes_def hr hn (qa_cons (q_var 0) (qa_nil))) (q_call (A1 1) T.g__law_of (T.kp 1 (Option.some_ne_none _)) (T.bd 1 (Option.some_ne_none _)) takes_def hr hn (qa_cons (q_var 0) (qa_cons (q_lst (qa_cons (q_str [65] (by first | rfl | decide +kernel) (by unfold okT; decide)) (qa_cons (q_str [48] (by first | rfl | decide +kernel) (by unfold okT; decide)) (qa_cons (q_str [95] (by first | rfl | decide +kernel) (by unfold okT; decide)) (qa_cons (q_str [45] (by first | rfl | decide +kernel) (by unfold okT; decide)) (qa_cons (q_str [32] (by first | rfl | decide +kernel) (by unfold okT; decide)) (qa_cons (q_str [33] (by first | rfl | decide +kernel) (by unfold okT; decide)) (qa_cons (q_str [119, 111, 114, 100, 116, 111, 111, 108, 111, 110, 103] (by first | rfl | decide +kernel) (by unfold okT; decide)) (qa_cons (q_str [44] (by first | rfl | decide +kernel) (by unfold okT; decide)) (qa_cons (q_str [90] (by first | rfl | decide +kernel) (by unfold okT; decide)) (qa_nil))))))))))) (qa_nil)))))) (
    qs_one (q_ret (q_if (qt_cmp (op_eqD hr.units) s_eq (q_call (A1 0) T.g__law_take (T.kp 0 (Option.some_ne_none _)) (T.bd 0 (Option.some_ne_none _)) takes_def hr hn (qa_cons (q_var 0) (qa_cons (q_int) (qa_nil)))) (q_int) (nomark _)) (q_2 op_addAll s_add (q_item (by rfl) (q_var 1) (q_1 un_neg s_neg (q_int))) (q_slice (by rfl) (q_var 1) (qo_none) (qo_some (q_1 un_neg s_neg (q_int))))) (q_var 1))))
theorem ok_law_met (T : Top K mg) {n : Nat} {κ : Kap} (hκ : κ.shown = shownP) (A1 : AllOk PR w K mg base (n + 3) κ.fn) (A2 : AllOk PR w K mg base (n + 2) κ.ini) (A3 : AllOk PR w K mg base n κ.low) : FnG PR w K mg base (n + 4) (adr K 22) (fdOf K (adr K 22)) (pst 22) (spG (wd K) (runDef κ d_law_met)) :=
  fn_def T.d22 sc_law_met rfl rfl fun cdv A outer s H E hr hn =>
    qs_cons (q_set 1 sc_law_met.nd (q_call (A1 3) T.g__law_ordered (T.kp 3 (Option.some_ne_none _)) (T.bd 3 (Option.some_ne_none _)) takes_def hr hn (qa_cons (q_lc [("_law_lap", 12)] (by rfl) sc_law_met.nd (qi_rng1 (by rfl) T.f_range (q_call (A1 0) T.g__law_take (T.kp 0 (Option.some_ne_none _)) (T.bd 0 (Option.some_ne_none _)) takes_def hr hn (qa_cons (q_var 0) (qa_cons (q_int) (qa_nil))))) (by exact (show BlkOk ["_law_pot_here", "_law_names", "_law_kinds", "_law_at", "_law_wrong", "_law_odd_here", "_law_changed_here", "_law_value", "_law_build", "_law_some", "_law_due", "_law_one", "_law_lap"] (defScope st_law_met) _ _ from ⟨rfl, by decide +kernel, by decide +kernel, by decide +kernel, by decide +kernel⟩)) (fun _ _ _ _ _ => qg_name 12 sc_law_met.nd (fun _ _ => wipe_own (by decide))) (fun _ _ _ _ _ => qts_nil) (fun _ _ _ _ _ => q_call (A1 4) T.g__law_word (T.kp 4 (Option.some_ne_none _)) (T.bd 4 (Option.some_ne_none _)) takes_none hr hn (qa_cons (q_var 0) (qa_nil)))) (qa_nil)))) (
    qs_cons (q_par 2 3 (by rfl) sc_law_met.nd (q_callTy s_tuple call_tuple_of (by rfl) T.f_tuple (by rfl) (qa_cons (q_var 1) (qa_nil))) (q_call (A1 0) T.g__law_take (T.kp 0 (Option.some_ne_none _)) (T.bd 0 (Option.some_ne_none _)) takes_def hr hn (qa_cons (q_var 0) (qa_cons (q_2 op_addAll s_add (q_callB s_len call_len (by rfl) T.f_len (by rfl) (qa_cons (q_var 1) (qa_nil))) (q_int)) (qa_nil)))) (by rfl)) (
    qs_cons (q_set 4 sc_law_met.nd (q_2 op_addAll s_add (q_2 op_addAll s_add (q_slice (by rfl) (q_var 2) (qo_none) (qo_some (q_var 3))) (q_tup (qa_cons (q_call (A1 21) T.g__law_no_name (T.kp 21 (Option.some_ne_none _)) (T.bd 21 (Option.some_ne_none _)) takes_def hr hn (qa_cons (q_var 0) (qa_nil))) (qa_nil)))) (q_slice (by rfl) (q_var 2) (qo_some (q_var 3)) (qo_none)))) (
    qs_cons (q_par 5 6 (by rfl) sc_law_met.nd (q_call (A1 5) T.g__law_odd (T.kp 5 (Option.some_ne_none _)) (T.bd 5 (Option.some_ne_none _)) takes_def hr hn (qa_cons (q_var 0) (qa_nil))) (q_call (A1 6) T.g__law_changed (T.kp 6 (Option.some_ne_none _)) (T.bd 6 (Option.some_ne_none _)) takes_def hr hn (qa_cons (q_var 0) (qa_cons (q_var 2) (qa_nil)))) (by rfl)) (
    qs_cons (q_for passes_def (by rfl) (qi_list (by rfl) (q_lst (qa_cons (q_var 2) (qa_cons (q_var 4) (qa_cons (q_var 5) (qa_cons (q_var 6) (qa_cons (q_callTy s_list call_list_of (by rfl) T.f_list (by rfl) (qa_cons (q_var 2) (qa_nil))) (qa_cons (q_back (by rfl) (q_var 2)) (qa_cons (q_2 op_addAll s_add (q_var 2) (q_var 2)) (qa_cons (q_tup (qa_cons (q_str [110, 101, 120, 116] (by first | rfl | decide +kernel) (by unfold okT; decide)) (qa_nil))) (qa_cons (q_tup (qa_cons (q_str [] (by first | rfl | decide +kernel) (by unfold okT; decide)) (qa_nil))) (qa_cons (q_str [97] (by first | rfl | decide +kernel) (by unfold okT; decide)) (qa_cons (q_non) (qa_nil)))))))))))))) (qg_name 7 sc_law_met.nd) (qs_cons (q_set 10 sc_law_met.nd (q_if (qt_e (by rfl) (q_call (A1 18) T.g__law_are_kinds (T.kp 18 (Option.some_ne_none _)) (T.bd 18 (Option.some_ne_none _)) takes_def hr hn (qa_cons (q_var 7) (qa_nil)))) (q_tup (qa_cons (q_var 7) (qa_cons (q_str [107, 105, 110, 100, 115] (by first | rfl | decide +kernel) (by unfold okT; decide)) (qa_nil)))) (q_tup (qa_cons (q_var 7) (qa_cons (q_str [110, 111, 110, 101] (by first | rfl | decide +kernel) (by unfold okT; decide)) (qa_nil)))))) (
    qs_cons (q_ifS (qt_cmp (op_neD hr.units) s_ne (q_callB (s_repr hκ) (call_reprD T.sysd hn (by have := hr.un; omega)) (by rfl) T.f_repr (by rfl) (qa_cons (q_call (A1 19) T.g__law_told (T.kp 19 (Option.some_ne_none _)) (T.bd 19 (Option.some_ne_none _)) takes_def hr hn (qa_cons (q_var 7) (qa_nil))) (qa_nil))) (q_callB (s_repr hκ) (call_reprD T.sysd hn (by have := hr.un; omega)) (by rfl) T.f_repr (by rfl) (qa_cons (q_var 10) (qa_nil))) (nomark _)) (qs_one (q_ret (q_bl))) (qs_nil)) (
    qs_one (q_ifS ((qw_and (qt_cmp (op_eqD hr.units) s_eq (q_item (by rfl) (q_var 10) (q_int)) (q_str [110, 111, 110, 101] (by first | rfl | decide +kernel) (by unfold okT; decide)) (nomark _)) (qw_and1 (qt_not (qt_e (by rfl) (q_call (A1 20) T.g__law_base (T.kp 20 (Option.some_ne_none _)) (T.bd 20 (Option.some_ne_none _)) takes_def hr hn (qa_cons (q_var 7) (qa_nil))))))).pt) (qs_one (q_ret (q_bl))) (qs_nil)))))) (
    qs_cons (q_set 8 sc_law_met.nd (q_new (W := wd K) (c := 0) (f := adr K 13) T.mk_Build (A2 13) T.g_Build (T.bd 13 (Option.some_ne_none _)) takes_def hr hn (qa_cons (q_var 2) (qa_nil)))) (
    qs_cons (q_set 9 sc_law_met.nd (q_2 op_addAll s_add (q_lst (qa_cons (q_call (A1 5) T.g__law_odd (T.kp 5 (Option.some_ne_none _)) (T.bd 5 (Option.some_ne_none _)) takes_def hr hn (qa_cons (q_var 0) (qa_nil))) (qa_cons (q_call (A1 21) T.g__law_no_name (T.kp 21 (Option.some_ne_none _)) (T.bd 21 (Option.some_ne_none _)) takes_def hr hn (qa_cons (q_var 0) (qa_nil))) (qa_cons (q_var 2) (qa_cons (q_non) (qa_cons (q_bl) (qa_cons (q_int) (qa_nil)))))))) (q_var 1))) (
    qs_cons (q_setLc 10 [("_law_one", 11)] (by rfl) sc_law_met.nd (by rfl) (qi_list (by rfl) (q_var 9)) (by exact (show BlkOk ["_law_pot_here", "_law_names", "_law_kinds", "_law_at", "_law_wrong", "_law_odd_here", "_law_changed_here", "_law_value", "_law_build", "_law_some", "_law_due", "_law_one", "_law_lap"] (defScope st_law_met) _ _ from ⟨rfl, by decide +kernel, by decide +kernel, by decide +kernel, by decide +kernel⟩)) (fun _ _ _ _ _ => qg_name 11 sc_law_met.nd (fun _ _ => wipe_own (by decide))) (fun _ _ _ _ _ => qts_nil) (fun _ _ _ _ _ => q_and (q_isa (W := wd K) (by rfl) T.cls T.ecs T.isa_str (.ty _) (by rfl) T.f_isinstance (q_var 11) (pe_bltn (by rfl) T.f_str (by rfl) rfl)) (q_and1 (q_cmp op_inAll s_in (q_var 11) (q_var 1) rfl)))) (
    qs_cons (q_ifS ((qw_or (qt_cmp (op_neD hr.units) s_ne (q_callB (s_repr hκ) (call_reprD T.sysd hn (by have := hr.un; omega)) (by rfl) T.f_repr (by rfl) (qa_cons (q_lc [("_law_one", 11)] (by rfl) sc_law_met.nd (qi_list (by rfl) (q_var 9)) (by exact (show BlkOk ["_law_pot_here", "_law_names", "_law_kinds", "_law_at", "_law_wrong", "_law_odd_here", "_law_changed_here", "_law_value", "_law_build", "_law_some", "_law_due", "_law_one", "_law_lap"] (defScope st_law_met) _ _ from ⟨rfl, by decide +kernel, by decide +kernel, by decide +kernel, by decide +kernel⟩)) (fun _ _ _ _ _ => qg_name 11 sc_law_met.nd (fun _ _ => wipe_own (by decide))) (fun _ _ _ _ _ => qts_nil) (fun _ _ _ _ _ => q_inOwn (by rfl) (by exact T.meth_Build_contains.1) (by exact T.meth_Build_contains.2) (A1 16) (T.bd 16 (Option.some_ne_none _)) takes_none hr hn (q_var 11) (q_var 8) rfl)) (qa_nil))) (q_callB (s_repr hκ) (call_reprD T.sysd hn (by have := hr.un; omega)) (by rfl) T.f_repr (by rfl) (qa_cons (q_var 10) (qa_nil))) (nomark _)) (qw_or1 (qt_cmp op_notBl s_isnotB (q_cmpA (by exact fun _ _ => rfl) (by rfl) (by exact T.cmp_Build_eq) (A1 15) (T.bd 15 (Option.some_ne_none _)) takes_def hr hn (q_var 8) (q_call (A1 5) T.g__law_odd (T.kp 5 (Option.some_ne_none _)) (T.bd 5 (Option.some_ne_none _)) takes_def hr hn (qa_cons (q_var 0) (qa_nil))) (nomark _)) (q_bl) (nomark _)))).pt) (qs_one (q_ret (q_bl))) (qs_nil)) (
    qs_one (q_ret (q_cmp (op_eqD hr.units) s_eq (q_callB (s_repr hκ) (call_reprD T.sysd hn (by have := hr.un; omega)) (by rfl) T.f_repr (by rfl) (qa_cons (q_lst (qa_cons (q_cmpOwn (by exact fun _ _ => rfl) (by rfl) (by exact T.cmp_Build_eq) (A1 15) (T.bd 15 (Option.some_ne_none _)) takes_def hr hn (q_var 8) (q_new (W := wd K) (c := 0) (f := adr K 13) T.mk_Build (A2 13) T.g_Build (T.bd 13 (Option.some_ne_none _)) takes_def hr hn (qa_cons (q_var 2) (qa_nil))) (nomark _)) (qa_cons (q_cmpA (by exact fun _ _ => rfl) (by rfl) (by exact T.cmp_Build_eq) (A1 15) (T.bd 15 (Option.some_ne_none _)) takes_def hr hn (q_var 8) (q_var 2) (nomark _)) (qa_cons (q_errval (by rfl) T.ecs rfl (q_err (C := ga K "BadLine") rfl (T.mke_BadLine) hr (by rfl) T.g_BadLine (q_var 5) rfl rfl)) (qa_nil))))) (qa_nil))) (q_callB (s_repr hκ) (call_reprD T.sysd hn (by have := hr.un; omega)) (by rfl) T.f_repr (by rfl) (qa_cons (q_lst (qa_cons (q_bl) (qa_cons (q_bl) (qa_cons (q_var 5) (qa_nil))))) (qa_nil))) (nomark _))))))))))))
theorem ok_law (T : Top K mg) {n : Nat} {κ : Kap} (hκ : κ.shown = shownP) (A1 : AllOk PR w K mg base (n + 3) κ.fn) (A2 : AllOk PR w K mg base (n + 2) κ.ini) (A3 : AllOk PR w K mg base n κ.low) : FnG PR w K mg base (n + 4) (adr K 23) (fdOf K (adr K 23)) (pst 23) (spG (wd K) (runDef κ d_law)) :=
  fn_def T.d23 sc_law rfl rfl fun cdv A outer s H E hr hn =>
    qs_cons (q_for passes_def (by rfl) (qi_rng1 (by rfl) T.f_range (q_callB s_max (call_max2 (by rfl)) (by rfl) T.f_max (by rfl) (qa_cons (q_int) (qa_cons (q_callB s_min (call_min2 (by rfl)) (by rfl) T.f_min (by rfl) (qa_cons (q_callB s_len call_len (by rfl) T.f_len (by rfl) (qa_cons (q_var 0) (qa_nil))) (qa_cons (q_int) (qa_nil)))) (qa_nil))))) (qg_name 1 sc_law.nd) (qs_one (q_ifS (qt_not (qt_e (by rfl) (q_call (A1 22) T.g__law_met (T.kp 22 (Option.some_ne_none _)) (T.bd 22 (Option.some_ne_none _)) takes_def hr hn (qa_cons (q_call (A1 2) T.g__law_pot (T.kp 2 (Option.some_ne_none _)) (T.bd 2 (Option.some_ne_none _)) takes_def hr hn (qa_cons (q_var 0) (qa_cons (q_var 1) (qa_nil)))) (qa_nil))))) (qs_one (q_ret (q_bl))) (qs_nil)))) (
    qs_one (q_ret (q_bl)))
theorem all_ok (T : Top K mg) (n : Nat) : AllOk PR w K mg base n (callF (prog shownP) n) := levels (prog shownP) (fun n i d e A1 A2 A3 => match i, e with
  | 0, e => by cases e; exact ok_law_take T rfl A1 A2 A3
  | 1, e => by cases e; exact ok_law_of T rfl A1 A2 A3
  | 2, e => by cases e; exact ok_law_pot T rfl A1 A2 A3
  | 3, e => by cases e; exact ok_law_ordered T rfl A1 A2 A3
  | 4, e => by cases e; exact ok_law_word T rfl A1 A2 A3
  | 5, e => by cases e; exact ok_law_odd T rfl A1 A2 A3
  | 6, e => by cases e; exact ok_law_changed T rfl A1 A2 A3
  | 7, e => by cases e; exact ok_law_changed_in T rfl A1 A2 A3
  | 8, e => by cases e; exact ok_law_changed_row T rfl A1 A2 A3
  | 9, e => by cases e; exact ok_law_changed_leaf T rfl A1 A2 A3
  | 10, e => by cases e; exact ok_is_name T rfl A1 A2 A3
  | 11, e => by cases e; exact ok_is_ascending T rfl A1 A2 A3
  | 12, e => by cases e; exact ok_are_kinds T rfl A1 A2 A3
  | 13, e => by cases e; exact ok_Build_init T rfl A1 A2 A3
  | 14, e => by cases e; exact ok_Build_kinds T rfl A1 A2 A3
  | 15, e => by cases e; exact ok_Build_eq T rfl A1 A2 A3
  | 16, e => by cases e; exact ok_Build_contains T rfl A1 A2 A3
  | 17, e => by cases e; exact ok_law_is_name T rfl A1 A2 A3
  | 18, e => by cases e; exact ok_law_are_kinds T rfl A1 A2 A3
  | 19, e => by cases e; exact ok_law_told T rfl A1 A2 A3
  | 20, e => by cases e; exact ok_law_base T rfl A1 A2 A3
  | 21, e => by cases e; exact ok_law_no_name T rfl A1 A2 A3
  | 22, e => by cases e; exact ok_law_met T rfl A1 A2 A3
  | 23, e => by cases e; exact ok_law T rfl A1 A2 A3
  | _ + 24, e => nomatch e) n
end
end K02
end

section
set_option Elab.async false
set_option linter.all false
set_option autoImplicit false
set_option maxRecDepth 100000
set_option maxHeartbeats 0
/-! the head: the top run once; what it tells (printed by gen.py) -/
namespace K02
open PySem PySem.Spec PyProof.Rows L2 IR He
theorem sub_top : ∀ c d, 2 ≤ c → sub c d = sub 2 d := by
  intro c d h
  unfold sub
  simp only [show min c 0 = min 2 0 by omega, show min c 2 = min 2 2 by omega]
def fnl : List DefA := [
  ⟨fun K => adr K 0, "_law_take", "_law_take", defArgs st_law_take, defBody st_law_take, defScope st_law_take, []⟩,
  ⟨fun K => adr K 1, "_law_of", "_law_of", defArgs st_law_of, defBody st_law_of, defScope st_law_of, []⟩,
  ⟨fun K => adr K 2, "_law_pot", "_law_pot", defArgs st_law_pot, defBody st_law_pot, defScope st_law_pot, []⟩,
  ⟨fun K => adr K 3, "_law_ordered", "_law_ordered", defArgs st_law_ordered, defBody st_law_ordered, defScope st_law_ordered, []⟩,
  ⟨fun K => adr K 4, "_law_word", "_law_word", defArgs st_law_word, defBody st_law_word, defScope st_law_word, []⟩,
  ⟨fun K => adr K 5, "_law_odd", "_law_odd", defArgs st_law_odd, defBody st_law_odd, defScope st_law_odd, []⟩,
  ⟨fun K => adr K 6, "_law_changed", "_law_changed", defArgs st_law_changed, defBody st_law_changed, defScope st_law_changed, []⟩,
  ⟨fun K => adr K 7, "_law_changed_in", "_law_changed_in", defArgs st_law_changed_in, defBody st_law_changed_in, defScope st_law_changed_in, []⟩,
  ⟨fun K => adr K 8, "_law_changed_row", "_law_changed_row", defArgs st_law_changed_row, defBody st_law_changed_row, defScope st_law_changed_row, []⟩,
  ⟨fun K => adr K 9, "_law_changed_leaf", "_law_changed_leaf", defArgs st_law_changed_leaf, defBody st_law_changed_leaf, defScope st_law_changed_leaf, []⟩,
  ⟨fun K => adr K 10, "is_name", "is_name", defArgs st_is_name, defBody st_is_name, defScope st_is_name, []⟩,
  ⟨fun K => adr K 11, "is_ascending", "is_ascending", defArgs st_is_ascending, defBody st_is_ascending, defScope st_is_ascending, []⟩,
  ⟨fun K => adr K 12, "are_kinds", "are_kinds", defArgs st_are_kinds, defBody st_are_kinds, defScope st_are_kinds, []⟩,
  ⟨fun K => adr K 13, "__init__", "Build.__init__", defArgs st_Build_init, defBody st_Build_init, defScope st_Build_init, []⟩,
  ⟨fun K => adr K 14, "kinds", "Build.kinds", defArgs st_Build_kinds, defBody st_Build_kinds, defScope st_Build_kinds, []⟩,
  ⟨fun K => adr K 15, "__eq__", "Build.__eq__", defArgs st_Build_eq, defBody st_Build_eq, defScope st_Build_eq, []⟩,
  ⟨fun K => adr K 16, "__contains__", "Build.__contains__", defArgs st_Build_contains, defBody st_Build_contains, defScope st_Build_contains, []⟩,
  ⟨fun K => adr K 17, "_law_is_name", "_law_is_name", defArgs st_law_is_name, defBody st_law_is_name, defScope st_law_is_name, []⟩,
  ⟨fun K => adr K 18, "_law_are_kinds", "_law_are_kinds", defArgs st_law_are_kinds, defBody st_law_are_kinds, defScope st_law_are_kinds, []⟩,
  ⟨fun K => adr K 19, "_law_told", "_law_told", defArgs st_law_told, defBody st_law_told, defScope st_law_told, []⟩,
  ⟨fun K => adr K 20, "_law_base", "_law_base", defArgs st_law_base, defBody st_law_base, defScope st_law_base, []⟩,
  ⟨fun K => adr K 21, "_law_no_name", "_law_no_name", defArgs st_law_no_name, defBody st_law_no_name, defScope st_law_no_name, []⟩,
  ⟨fun K => adr K 22, "_law_met", "_law_met", defArgs st_law_met, defBody st_law_met, defScope st_law_met, []⟩,
  ⟨fun K => adr K 23, "law", "law", defArgs st_law, defBody st_law, defScope st_law, []⟩,
  ⟨fun K => EF K, "__init__", "SparedError.__init__", defArgs st_err, defBody st_err, defScope st_err, ["__class__"]⟩]
theorem init_sh : InitSh (defArgs st_err) (defBody st_err) (defScope st_err) := ⟨⟨_, _, _, _, _, _, _, _, _, _, rfl, fun env => ⟨⟨_, rfl⟩, rfl, rfl⟩⟩, rfl, NdefX.nscope_by (by decide +kernel), rfl, fun _ _ _ _ _ _ _ _ _ us hl => match us, hl with | [_, _], _ => rfl⟩
def exB (K : PySem.W.Frag) : List Bool := [
  (Fa.glo "BadKinds").ok K,
  (Fa.glo "BadLine").ok K,
  (Fa.glo "Build").ok K,
  (Fa.glo "SparedError").ok K,
  (Fa.glo "_law_are_kinds").ok K,
  (Fa.glo "_law_base").ok K,
  (Fa.glo "_law_changed").ok K,
  (Fa.glo "_law_changed_in").ok K,
  (Fa.glo "_law_changed_leaf").ok K,
  (Fa.glo "_law_changed_row").ok K,
  (Fa.glo "_law_is_name").ok K,
  (Fa.glo "_law_met").ok K,
  (Fa.glo "_law_no_name").ok K,
  (Fa.glo "_law_odd").ok K,
  (Fa.glo "_law_of").ok K,
  (Fa.glo "_law_ordered").ok K,
  (Fa.glo "_law_pot").ok K,
  (Fa.glo "_law_take").ok K,
  (Fa.glo "_law_told").ok K,
  (Fa.glo "_law_word").ok K,
  (Fa.glo "are_kinds").ok K,
  (Fa.glo "is_ascending").ok K,
  (Fa.glo "is_name").ok K,
  (Fa.glo "law").ok K,
  (Fa.free "ValueError").ok K,
  (Fa.free "abs").ok K,
  (Fa.free "all").ok K,
  (Fa.free "bool").ok K,
  (Fa.free "int").ok K,
  (Fa.free "isinstance").ok K,
  (Fa.free "len").ok K,
  (Fa.free "list").ok K,
  (Fa.free "max").ok K,
  (Fa.free "min").ok K,
  (Fa.free "range").ok K,
  (Fa.free "repr").ok K,
  (Fa.free "str").ok K,
  (Fa.free "super").ok K,
  (Fa.free "tuple").ok K,
  (Fa.free "zip").ok K,
  (Fa.str "LETTERS" "abcdefghijklmnopqrstuvwxyz").ok K,
  (Fa.int "MOST_LETTERS" 8).ok K,
  ((Fa.glo "TAKEN_WORDS").ok K && tupB K "TAKEN_WORDS" [.str "next", .str "more", .str "not", .str "same", .str "less", .str "and", .str "or"]),
  (List.range 3).all (fun c => clsB K (clN c)),
  (List.range 3).all (fun c => lookB K ((wd K).ec c)),
  sysB K,
  initB PR K (EB K) (EF K) "SparedError.__init__",
  eqO (PySem.W.nsIn K PySem.cStatics "thirdparty.any") (some none),
  cmpB K (ga K "Build") (adr K 15) "__eq__",
  errTB K (EB K) (EF K) (ga K "BadKinds"),
  errTB K (EB K) (EF K) (ga K "BadLine"),
  exmB (wd K) 2 (.ref (ga K "BadKinds")) (fun c => sub c 1000),
  exmB (wd K) 2 (.ref (ga K "BadLine")) (fun c => sub c 1001),
  exmB (wd K) 2 (.ref (ga K "SparedError")) (fun c => sub c 1002),
  (List.range 3).all fun c => (Fa.noat (clN c) (Str.ofString "own_kinds")).ok K,
  isaB (wd K) 2 sub (.eown 0) (.ref (ga K "BadKinds")),
  isaB (wd K) 2 sub (.own 0) (.ref (ga K "Build")),
  isaB (wd K) 2 sub .tVal (.type "ValueError"),
  isaB (wd K) 2 sub .tBool (.type "bool"),
  isaB (wd K) 2 sub .tInt (.type "int"),
  isaB (wd K) 2 sub .tStr (.type "str"),
  isaB (wd K) 2 sub .tTuple (.type "tuple"),
  methB K (ga K "Build") (adr K 16) (Str.ofString "__contains__"),
  (Fa.mkr "Build").ok K,
  propB K (ga K "Build") (ma K (ga K "Build") "kinds") "kinds"]
def ex (K : PySem.W.Frag) : Bool := (exB K).all id
theorem cls_all {K : PySem.W.Frag} (h : ((List.range 3).all fun c => clsB K (clN c)) = true) : ∀ c, ClsOk (wd K) c := by
  intro c
  by_cases hc : c < 3
  · exact clsB_ok rfl (List.all_eq_true.mp h c (List.mem_range.mpr hc))
  · exact clsB_ok (clN_top c (by omega)) (List.all_eq_true.mp h 2 (List.mem_range.mpr (by omega)))
theorem exAt {K : PySem.W.Frag} (h : ex K = true) (i : Nat) {b : Bool} (e : (exB K)[i]? = some b) : b = true := List.all_eq_true.mp h b (List.mem_of_getElem? e)
theorem top_ok {K : PySem.W.Frag} {hp : PySem.Heap} {mg : Str → Option Value} (X : K.In hp) (G : hp.Ns mainGlobals mg) (c : SaysP fnl ex K) : Top K mg where
  d0 := c.def_ 0
  d1 := c.def_ 1
  d2 := c.def_ 2
  d3 := c.def_ 3
  d4 := c.def_ 4
  d5 := c.def_ 5
  d6 := c.def_ 6
  d7 := c.def_ 7
  d8 := c.def_ 8
  d9 := c.def_ 9
  d10 := c.def_ 10
  d11 := c.def_ 11
  d12 := c.def_ 12
  d13 := c.def_ 13
  d14 := c.def_ 14
  d15 := c.def_ 15
  d16 := c.def_ 16
  d17 := c.def_ 17
  d18 := c.def_ 18
  d19 := c.def_ 19
  d20 := c.def_ 20
  d21 := c.def_ 21
  d22 := c.def_ 22
  d23 := c.def_ 23
  g_BadKinds := glo_ok X G (exAt c.ex 0 rfl)
  g_BadLine := glo_ok X G (exAt c.ex 1 rfl)
  g_Build := glo_ok X G (exAt c.ex 2 rfl)
  g_SparedError := glo_ok X G (exAt c.ex 3 rfl)
  g__law_are_kinds := glo_ok X G (exAt c.ex 4 rfl)
  g__law_base := glo_ok X G (exAt c.ex 5 rfl)
  g__law_changed := glo_ok X G (exAt c.ex 6 rfl)
  g__law_changed_in := glo_ok X G (exAt c.ex 7 rfl)
  g__law_changed_leaf := glo_ok X G (exAt c.ex 8 rfl)
  g__law_changed_row := glo_ok X G (exAt c.ex 9 rfl)
  g__law_is_name := glo_ok X G (exAt c.ex 10 rfl)
  g__law_met := glo_ok X G (exAt c.ex 11 rfl)
  g__law_no_name := glo_ok X G (exAt c.ex 12 rfl)
  g__law_odd := glo_ok X G (exAt c.ex 13 rfl)
  g__law_of := glo_ok X G (exAt c.ex 14 rfl)
  g__law_ordered := glo_ok X G (exAt c.ex 15 rfl)
  g__law_pot := glo_ok X G (exAt c.ex 16 rfl)
  g__law_take := glo_ok X G (exAt c.ex 17 rfl)
  g__law_told := glo_ok X G (exAt c.ex 18 rfl)
  g__law_word := glo_ok X G (exAt c.ex 19 rfl)
  g_are_kinds := glo_ok X G (exAt c.ex 20 rfl)
  g_is_ascending := glo_ok X G (exAt c.ex 21 rfl)
  g_is_name := glo_ok X G (exAt c.ex 22 rfl)
  g_law := glo_ok X G (exAt c.ex 23 rfl)
  f_ValueError := free_ok X G (exAt c.ex 24 rfl)
  f_abs := free_ok X G (exAt c.ex 25 rfl)
  f_all := free_ok X G (exAt c.ex 26 rfl)
  f_bool := free_ok X G (exAt c.ex 27 rfl)
  f_int := free_ok X G (exAt c.ex 28 rfl)
  f_isinstance := free_ok X G (exAt c.ex 29 rfl)
  f_len := free_ok X G (exAt c.ex 30 rfl)
  f_list := free_ok X G (exAt c.ex 31 rfl)
  f_max := free_ok X G (exAt c.ex 32 rfl)
  f_min := free_ok X G (exAt c.ex 33 rfl)
  f_range := free_ok X G (exAt c.ex 34 rfl)
  f_repr := free_ok X G (exAt c.ex 35 rfl)
  f_str := free_ok X G (exAt c.ex 36 rfl)
  f_super := free_ok X G (exAt c.ex 37 rfl)
  f_tuple := free_ok X G (exAt c.ex 38 rfl)
  f_zip := free_ok X G (exAt c.ex 39 rfl)
  c_LETTERS := strC X G (by first | rfl | decide +kernel) (by unfold okT; decide) (exAt c.ex 40 rfl)
  c_MOST_LETTERS := intC X G (exAt c.ex 41 rfl)
  c_TAKEN_WORDS := tupC X G (by intro α H; repeat (first | exact reps_nil | refine reps_int ?_ | refine reps_str (by first | rfl | decide +kernel) (by unfold okT; decide) ?_)) (exAt c.ex 42 rfl)
  cls := cls_all (exAt c.ex 43 rfl)
  ecs := looks_all ecN_top (exAt c.ex 44 rfl)
  sysd := sysB_ok (exAt c.ex 45 rfl)
  ini := c.ini 24 init_sh (exAt c.ex 46 rfl)
  third := eqO_ok (exAt c.ex 47 rfl)
  cmp_Build_eq := cmpB_ok (exAt c.ex 48 rfl)
  errt_BadKinds := errTB_ok (exAt c.ex 49 rfl)
  errt_BadLine := errTB_ok (exAt c.ex 50 rfl)
  exm_BadKinds := exmB_ok ecN_top (fun c h => sub_top c _ h) (exAt c.ex 51 rfl)
  exm_BadLine := exmB_ok ecN_top (fun c h => sub_top c _ h) (exAt c.ex 52 rfl)
  exm_SparedError := exmB_ok ecN_top (fun c h => sub_top c _ h) (exAt c.ex 53 rfl)
  na_own_kinds := na_ok (exAt c.ex 54 rfl)
  isa_BadKinds := isaB_ok clN_top sub_top ecN_top (exAt c.ex 55 rfl)
  isa_Build := isaB_ok clN_top sub_top ecN_top (exAt c.ex 56 rfl)
  isa_ValueError := isaB_ok clN_top sub_top ecN_top (exAt c.ex 57 rfl)
  isa_bool := isaB_ok clN_top sub_top ecN_top (exAt c.ex 58 rfl)
  isa_int := isaB_ok clN_top sub_top ecN_top (exAt c.ex 59 rfl)
  isa_str := isaB_ok clN_top sub_top ecN_top (exAt c.ex 60 rfl)
  isa_tuple := isaB_ok clN_top sub_top ecN_top (exAt c.ex 61 rfl)
  meth_Build_contains := methB_ok (exAt c.ex 62 rfl)
  mk_Build := mkr_ok (exAt c.ex 63 rfl)
  prop_Build_kinds := propB_ok (exAt c.ex 64 rfl)
abbrev R : PySem.W.OpenRow := PySem.W.OpenLaw.row PySem.Challenge.rw_sparedlines_k02_what_is_no_build
abbrev hk : PySem.W.Hook := hookP 7 fnl ex
def ob (s : PySem.W.SharedT) : AlP := obsP 7 fnl ex (HandSHeadRun.getT s)
theorem ob_eq (s : PySem.W.SharedT) : ob s = hk.obs s.abs := obsP_eq (HandSHeadRun.getT_eq s)
def loose0 : List Str := ["_wall", "SparedError", "BadLine", "BadKinds", "LETTERS", "TAKEN_WORDS", "MOST_LETTERS", "is_name", "is_ascending", "merged", "in_order", "are_kinds", "kinds_of", "kinds_without", "build_with", "Build", "_law_pot", "_law_take", "_law_of", "_law_ordered", "_law_odd", "_law_changed", "_law_changed_in", "_law_changed_row", "_law_changed_leaf", "_law_word", "_law_is_name", "_law_are_kinds", "_law_told", "_law_base"]
def loose1 : List Str := ["_law_no_name", "_law_met"]
abbrev loose : List Str := loose0 ++ loose1
theorem run (w : World) : HandSHeadRun.RunEq R (PySem.W.view R.prog [36]) hk ob 4000 loose w := by
  intro os
  kernel_rfl
end K02
end

section
set_option Elab.async false
set_option linter.all false
set_option autoImplicit false
set_option maxRecDepth 100000
set_option maxHeartbeats 0
open PySem PySem.W PySem.Calls PyProof.Rows
theorem PySem.Challenge.cw_sparedlines_k02_what_is_no_build_holds : PySem.Challenge.rw_sparedlines_k02_what_is_no_build.Holds := by
  w_on; o_law
  refine HandSHeadRun.head_any (r := OpenLaw.row PySem.Challenge.rw_sparedlines_k02_what_is_no_build) (q := view (OpenLaw.row PySem.Challenge.rw_sparedlines_k02_what_is_no_build).prog [36]) (H := K02.hk) (ob := K02.ob) (M := 4000) (loose := K02.loose) (d := HandSHeadRun.topDef (OpenLaw.row PySem.Challenge.rw_sparedlines_k02_what_is_no_build).prog 36) (kwd := [])
    K02.ob_eq (by kernel_rfl) (fun s => by kernel_rfl) K02.run (by kernel_rfl) (by kernel_rfl) (by kernel_rfl) (by rfl) (by first | assumption | decide +kernel) (by decide +kernel) ⟨rfl, rfl, rfl, rfl, rfl, by decide +kernel⟩ ?hw ?hc
  case hw => w_witness2
  case hc =>
    refine IR.walk_end (l := PySem.Challenge.rw_sparedlines_k02_what_is_no_build) (n := 63) (k := 60) (x := "_law_script") rfl (by decide) (by kernel_rfl) ⟨rfl, by decide, by decide⟩ ?F
    intro w mg fa h Y G hmg0
    obtain ⟨K, KX, c⟩ := Y
    have T := K02.top_ok KX G c
    have hmg : mg ("law" : PySem.Str) = some (.ref fa) := by
      have e : (HandSHeadRun.topDef (OpenLaw.row PySem.Challenge.rw_sparedlines_k02_what_is_no_build).prog 36).name = ("law" : PySem.Str) := by kernel_rfl
      rw [← e]
      exact hmg0
    have e := hmg.symm.trans T.g_law
    cases e
    have b := L2.FunD.bindsA (ps := ["_law_script"]) T.d23 fun _ _ _ _ _ _ us hl => match us, hl with | [_], _ => rfl
    exact ⟨K02.wd K, _, _, KX, fun s v => b s [v] rfl, fun is hl => K02.law_true is hl, fun base _ _ => K02.all_ok T 60 23⟩
end
