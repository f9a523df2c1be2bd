import PyProof.Rows.All
import Wide.All
import OpenK.AllK
import Wide.FinOn
import HandS.ForMost
import HandS.ForExc
import HandS.TupAny
import HandS.Star
import HandS.IsInst
import HandS.Property
import HandS.CallSlots
import HandS.SlotsOwn
import HandS.Zip
import HandS.Style
import HandS.More
import HandS.Small
import PyProof.InstNe
import HandS.Defaults
import HandS.Ends
import HandS.HeadEnd
import HandS.Words
import HandS.WordsExc
import HandS.Codes
import HandS.Head0
import HandS.Head1
import HandS.Head2
import HandS.HeadHook1
import HandS.HeadHook2
import HandS.HeadHook3
import HandS.HeadHook4
import PySem.Challenge.RW_sparedlines_k01_builds_by_rows_of_operat
section
set_option autoImplicit false
set_option linter.all false
/-! A small deterministic semantics of the part of Python that these programs use: values, a local heap, combinators. Plain Lean. -/
namespace IR

abbrev Txt := List Nat
/-- the largest size that is served -/
abbrev LIM : Nat := 16777216

inductive D where
  | non
  | bl (b : Bool)
  | int (i : Int)
  | str (s : Txt)
  | tup (ds : List D)
  /-- a list that is only read (the script) -/
  | frz (ds : List D)
  | ref (k : Nat)

mutual
def D.beq : D → D → Bool
  | .non, .non => true
  | .bl a, .bl b => a == b
  | .int a, .int b => a == b
  | .str a, .str b => a == b
  | .tup a, .tup b => D.beqs a b
  | .frz a, .frz b => D.beqs a b
  | .ref a, .ref b => a == b
  | _, _ => false
def D.beqs : List D → List D → Bool
  | [], [] => true
  | a :: as, b :: bs => D.beq a b && D.beqs as bs
  | _, _ => false
end
mutual
theorem D.beq_refl : ∀ d : D, D.beq d d = true
  | .non => rfl
  | .bl b => by simp [D.beq]
  | .int b => by simp [D.beq]
  | .str b => by simp [D.beq]
  | .tup ds => by simp [D.beq, D.beqs_refl ds]
  | .frz ds => by simp [D.beq, D.beqs_refl ds]
  | .ref k => by simp [D.beq]
theorem D.beqs_refl : ∀ ds : List D, D.beqs ds ds = true
  | [] => rfl
  | d :: ds => by simp [D.beqs, D.beq_refl d, D.beqs_refl ds]
end
mutual
theorem D.eq_of_beq : ∀ a b : D, D.beq a b = true → a = b
  | .non, b, h => by cases b <;> simp_all [D.beq]
  | .bl x, b, h => by cases b <;> simp_all [D.beq]
  | .int x, b, h => by cases b <;> simp_all [D.beq]
  | .str x, b, h => by cases b <;> simp_all [D.beq]
  | .tup x, b, h => by
    cases b with
    | tup y => rw [D.eqs_of_beqs x y (by simpa [D.beq] using h)]
    | _ => simp [D.beq] at h
  | .frz x, b, h => by
    cases b with
    | frz y => rw [D.eqs_of_beqs x y (by simpa [D.beq] using h)]
    | _ => simp [D.beq] at h
  | .ref x, b, h => by cases b <;> simp_all [D.beq]
theorem D.eqs_of_beqs : ∀ a b : List D, D.beqs a b = true → a = b
  | [], b, h => by cases b <;> simp_all [D.beqs]
  | x :: xs, b, h => by
    cases b with
    | nil => simp [D.beqs] at h
    | cons y ys =>
      simp only [D.beqs, Bool.and_eq_true] at h
      rw [D.eq_of_beq x y h.1, D.eqs_of_beqs xs ys h.2]
end
instance : BEq D := ⟨D.beq⟩
instance : LawfulBEq D where
  eq_of_beq := fun {a b} h => D.eq_of_beq a b h
  rfl := fun {a} => D.beq_refl a
instance : DecidableEq D := fun a b => if h : D.beq a b = true then isTrue (D.eq_of_beq a b h) else isFalse (fun e => h (by rw [e]; exact D.beq_refl b))

mutual
/-- no reference in it -/
def D.pure : D → Bool
  | .tup ds => D.pures ds
  | .frz ds => D.pures ds
  | .ref _ => false
  | _ => true
def D.pures : List D → Bool
  | [] => true
  | d :: ds => D.pure d && D.pures ds
end

/-- an object: a list, a dict, an instance of the class c -/
inductive LO where
  | lst (ds : List D)
  | dic (kvs : List (D × D))
  | ins (c : Nat) (fs : List (String × D))
  deriving DecidableEq

def LO.pure : LO → Bool
  | .lst ds => D.pures ds
  | .dic kvs => kvs.all fun p => p.1.pure && p.2.pure
  | .ins _ fs => fs.all fun p => p.2.pure

abbrev Heap := List LO

inductive Res (α : Type) where
  | ok (a : α) (h : Heap)
  | exc (c : Nat) (v : D) (h : Heap)
  | bad

def Res.bind {α β : Type} (r : Res α) (f : α → Heap → Res β) : Res β :=
  match r with
  | .ok a h => f a h
  | .exc c v h => .exc c v h
  | .bad => .bad
@[simp] theorem Res.bind_ok {α β : Type} (a : α) (h : Heap) (f : α → Heap → Res β) : (Res.ok a h).bind f = f a h := rfl
@[simp] theorem Res.bind_bad {α β : Type} (f : α → Heap → Res β) : (Res.bad : Res α).bind f = .bad := rfl
@[simp] theorem Res.bind_exc {α β : Type} (c : Nat) (v : D) (h : Heap) (f : α → Heap → Res β) : (Res.exc c v h : Res α).bind f = .exc c v h := rfl

theorem Res.bind_assoc {α β γ : Type} (r : Res α) (f : α → Heap → Res β) (g : β → Heap → Res γ) : (r.bind f).bind g = r.bind fun a h => (f a h).bind g := by cases r <;> rfl
/-! ### what is left behind: new objects that nobody knows go -/
def agree : Heap → Heap → Bool
  | [], _ => true
  | a :: as, b :: bs => (b.pure || decide (a = b)) && agree as bs
  | _ :: _, [] => false
def gc (h : Heap) : Res D → Res D
  | .ok v h' =>
    if agree h h' then
      if v.pure then .ok v (h'.take h.length)
      else match v with
        | .ref r =>
          if h.length ≤ r then
            match h'[r]? with
            | some o => if o.pure then .ok (.ref h.length) (h'.take h.length ++ [o]) else .ok v h'
            | none => .ok v h'
          else .ok v (h'.take h.length)
        | _ => .ok v h'
    else .ok v h'
  | .exc c v h' => .exc c v h'
  | .bad => .bad
def gcB (h : Heap) : Res Bool → Res Bool
  | .ok v h' => if agree h h' then .ok v (h'.take h.length) else .ok v h'
  | .exc c v h' => .exc c v h'
  | .bad => .bad

theorem agree_app (h g : Heap) : agree h (h ++ g) = true := by
  induction h with
  | nil => rfl
  | cons a as ih => simp [agree, ih]
theorem agree_self (h : Heap) : agree h h = true := by simpa using agree_app h []
theorem agree_set (h g : Heap) (p : Nat) (o : LO) (ho : o.pure = true) : agree h (h.set p o ++ g) = true := by
  induction h generalizing p with
  | nil => rfl
  | cons a as ih =>
    cases p with
    | zero => simp [agree, ho, agree_app]
    | succ p => simp [agree, ih]
@[simp] theorem gc_exc (h : Heap) (c : Nat) (v : D) (h' : Heap) : gc h (.exc c v h') = .exc c v h' := rfl
@[simp] theorem gc_bad (h : Heap) : gc h .bad = .bad := rfl
theorem gc_app {h g : Heap} {v : D} (hv : v.pure = true) : gc h (.ok v (h ++ g)) = .ok v h := by
  simp [gc, agree_app, hv]
theorem gc_self {h : Heap} {v : D} (hv : v.pure = true) : gc h (.ok v h) = .ok v h := by
  simp [gc, agree_self, hv]
theorem gc_old {h : Heap} {r : Nat} (hr : r < h.length) : gc h (.ok (.ref r) h) = .ok (.ref r) h := by
  have : ¬ h.length ≤ r := by omega
  simp [gc, agree_self, D.pure, this]
theorem gc_old_app {h g : Heap} {r : Nat} (hr : r < h.length) : gc h (.ok (.ref r) (h ++ g)) = .ok (.ref r) h := by
  have : ¬ h.length ≤ r := by omega
  simp [gc, agree_app, D.pure, this]
theorem gc_new {h g : Heap} {o : LO} {r : Nat} (hr : (h ++ g)[r]? = some o) (hl : h.length ≤ r) (ho : o.pure = true) : gc h (.ok (.ref r) (h ++ g)) = .ok (.ref h.length) (h ++ [o]) := by
  simp [gc, agree_app, D.pure, hl, hr, ho]
theorem gc_set {h g : Heap} {v : D} {p : Nat} {o : LO} (hv : v.pure = true) (ho : o.pure = true) : gc h (.ok v (h.set p o ++ g)) = .ok v (h.set p o) := by
  simp [gc, agree_set, hv, ho]

/-! ### slots, expressions -/
abbrev Env := List (Option D)
abbrev SE := Env → Heap → Res D
abbrev ST := Env → Heap → Res Bool
abbrev SA := Env → Heap → Res (List D)

/-- deep data: what == and repr see -/
inductive PD where
  | none
  | bool (b : Bool)
  | int (i : Int)
  | str (s : Txt)
  | list (xs : List PD)
  | tuple (xs : List PD)

mutual
def PD.eqv : PD → PD → Bool
  | .none, .none => true
  | .bool a, .bool b => a == b
  | .bool a, .int j => (if a then 1 else 0) == j
  | .int i, .bool b => i == (if b then 1 else 0)
  | .int i, .int j => i == j
  | .str x, .str y => x == y
  | .list xs, .list ys => PD.eqvs xs ys
  | .tuple xs, .tuple ys => PD.eqvs xs ys
  | _, _ => false
def PD.eqvs : List PD → List PD → Bool
  | [], [] => true
  | x :: xs, y :: ys => PD.eqv x y && PD.eqvs xs ys
  | _, _ => false
end
mutual
theorem PD.eqv_refl : ∀ d : PD, PD.eqv d d = true
  | .none => rfl
  | .bool b => by simp [PD.eqv]
  | .int i => by simp [PD.eqv]
  | .str s => by simp [PD.eqv]
  | .list xs => by simp [PD.eqv, PD.eqvs_refl xs]
  | .tuple xs => by simp [PD.eqv, PD.eqvs_refl xs]
theorem PD.eqvs_refl : ∀ ds : List PD, PD.eqvs ds ds = true
  | [] => rfl
  | d :: ds => by simp [PD.eqvs, PD.eqv_refl d, PD.eqvs_refl ds]
end
mutual
/-- how much there is -/
def PD.wt : PD → Nat
  | .none => 0
  | .bool _ => 0
  | .int i => if i = 0 then 0 else i.natAbs.log2 + 1
  | .str s => s.length
  | .list xs => PD.wts xs
  | .tuple xs => PD.wts xs
def PD.wts : List PD → Nat
  | [] => 0
  | d :: ds => PD.wt d + 1 + PD.wts ds
end
mutual
/-- ints that can be written out -/
def PD.small : PD → Bool
  | .int i => decide (i.natAbs.log2 < 1920)
  | .list xs => PD.smalls xs
  | .tuple xs => PD.smalls xs
  | _ => true
def PD.smalls : List PD → Bool
  | [] => true
  | d :: ds => PD.small d && PD.smalls ds
end
mutual
/-- ints of at most ten figures -/
def PD.tiny : PD → Bool
  | .int i => decide (i.natAbs < 10000000000)
  | .list xs => PD.tinys xs
  | .tuple xs => PD.tinys xs
  | _ => true
def PD.tinys : List PD → Bool
  | [] => true
  | d :: ds => PD.tiny d && PD.tinys ds
end
/-- it can be written out -/
def PD.fits (p : PD) : Bool := (p.tiny && decide (p.wt ≤ 1048576)) || (p.small && decide (p.wt ≤ 8000))
def mapO {α β : Type} (f : α → Option β) : List α → Option (List β)
  | [] => some []
  | a :: as => match f a, mapO f as with
    | some b, some bs => some (b :: bs)
    | _, _ => none
/-- what a value is as data, at most so deep -/
def rd (h : Heap) : Nat → D → Option PD
  | 0, _ => none
  | n + 1, d => match d with
    | .non => some .none
    | .bl b => some (.bool b)
    | .int i => some (.int i)
    | .str s => some (.str s)
    | .tup ds => (mapO (rd h n) ds).map .tuple
    | .frz ds => (mapO (rd h n) ds).map .list
    | .ref k => match h[k]? with
      | some (.lst ds) => (mapO (rd h n) ds).map .list
      | _ => none
abbrev DEEP : Nat := 60

/-- the calls: of a def by its number; of an __init__ (one level below); how data is written out -/
structure Kap where
  fn : Nat → List D → Heap → Res D
  ini : Nat → List D → Heap → Res D
  low : Nat → List D → Heap → Res D
  shown : PD → Txt

def liftO {α : Type} (o : Option α) (h : Heap) : Res α := match o with | some a => .ok a h | none => .bad

def e_c (d : D) : SE := fun _ h => .ok d h
def e_var (i : Nat) : SE := fun σ h => match σ[i]? with | some (some d) => .ok d h | _ => .bad
def e_1 (op : D → Heap → Res D) (a : SE) : SE := fun σ h => (a σ h).bind fun x h1 => op x h1
def e_2 (op : D → D → Heap → Res D) (a b : SE) : SE := fun σ h => (a σ h).bind fun x h1 => (b σ h1).bind fun y h2 => op x y h2
def e_3 (op : D → D → D → Heap → Res D) (a b c : SE) : SE := fun σ h => (a σ h).bind fun x h1 => (b σ h1).bind fun y h2 => (c σ h2).bind fun z h3 => op x y z h3
def a_nil : SA := fun _ h => .ok [] h
def a_cons (a : SE) (b : SA) : SA := fun σ h => (a σ h).bind fun x h1 => (b σ h1).bind fun xs h2 => .ok (x :: xs) h2
/-- *e in a display: a list or a tuple -/
def items (h : Heap) : D → Option (List D)
  | .tup ds => some ds
  | .frz ds => some ds
  | .ref k => match h[k]? with
    | some (.lst ds) => some ds
    | _ => none
  | _ => none
def a_star (a : SE) (b : SA) : SA := fun σ h => (a σ h).bind fun x h1 => (liftO (items h1 x) h1).bind fun ds h1 => (b σ h1).bind fun xs h2 => .ok (ds ++ xs) h2
def e_tup (a : SA) : SE := fun σ h => (a σ h).bind fun xs h1 => if xs.length ≤ LIM then .ok (.tup xs) h1 else .bad
def newO (o : LO) (h : Heap) : Res D := .ok (.ref h.length) (h ++ [o])
def e_lst (a : SA) : SE := fun σ h => (a σ h).bind fun xs h1 => if xs.length ≤ LIM then newO (.lst xs) h1 else .bad
/-- a call of something with its arguments -/
def e_call (f : List D → Heap → Res D) (a : SA) : SE := fun σ h => (a σ h).bind fun xs h1 => f xs h1

/-! ### tests -/
/-- a value's truth (no own class) -/
def truth (h : Heap) : D → Option Bool
  | .non => some false
  | .bl b => some b
  | .int i => some (i != 0)
  | .str s => if s.length ≤ LIM then some (!s.isEmpty) else none
  | .tup ds => some (!ds.isEmpty)
  | .frz ds => some (!ds.isEmpty)
  | .ref k => match h[k]? with
    | some (.lst ds) => some (!ds.isEmpty)
    | some (.dic kvs) => some (!kvs.isEmpty)
    | _ => none
def asB : D → Option Bool
  | .bl b => some b
  | _ => none
def t_b (e : SE) : ST := fun σ h => (e σ h).bind fun x h1 => liftO (asB x) h1
def t_e (e : SE) : ST := fun σ h => (e σ h).bind fun x h1 => liftO (truth h1 x) h1
def t_not (t : ST) : ST := fun σ h => (t σ h).bind fun b h1 => .ok (!b) h1
def t_and (t u : ST) : ST := fun σ h => (t σ h).bind fun b h1 => if b then u σ h1 else .ok false h1
def t_or (t u : ST) : ST := fun σ h => (t σ h).bind fun b h1 => if b then .ok true h1 else u σ h1
def t_yes : ST := fun _ h => .ok true h
/-- a test's answer as a value -/
def e_t (t : ST) : SE := fun σ h => (t σ h).bind fun b h1 => .ok (.bl b) h1
def e_if (t : ST) (a b : SE) : SE := fun σ h => (t σ h).bind fun k h1 => if k then a σ h1 else b σ h1
/-- and, or, not as values (bools) -/
def e_and (a b : SE) : SE := fun σ h => (a σ h).bind fun x h1 => (liftO (asB x) h1).bind fun k h1 => if k then b σ h1 else .ok (.bl false) h1
def e_or (a b : SE) : SE := fun σ h => (a σ h).bind fun x h1 => (liftO (asB x) h1).bind fun k h1 => if k then .ok (.bl true) h1 else b σ h1
def e_not (a : SE) : SE := fun σ h => (a σ h).bind fun x h1 => (liftO (asB x) h1).bind fun k h1 => .ok (.bl (!k)) h1
/-- a op b op' c, b once -/
def e_chain (r r' : D → D → Heap → Res D) (a b c : SE) : SE := fun σ h => (a σ h).bind fun x h1 => (b σ h1).bind fun y h2 => (r x y h2).bind fun z h3 =>
  (liftO (asB z) h3).bind fun k h3 => if k then (c σ h3).bind fun w h4 => r' y w h4 else .ok (.bl false) h3

/-! ### statements -/
inductive Flow where
  | nx (σ : Env) (h : Heap)
  | rt (v : D) (h : Heap)
  | bk (σ : Env) (h : Heap)
  | ct (σ : Env) (h : Heap)
  | exc (c : Nat) (v : D) (σ : Env) (h : Heap)
  | bad
abbrev SS := Env → Heap → Flow
def Res.to {α : Type} (r : Res α) (σ : Env) (f : α → Heap → Flow) : Flow :=
  match r with
  | .ok a h => f a h
  | .exc c v h => .exc c v σ h
  | .bad => .bad
@[simp] theorem Res.to_ok {α : Type} (a : α) (h : Heap) (σ : Env) (f : α → Heap → Flow) : (Res.ok a h).to σ f = f a h := rfl
@[simp] theorem Res.to_bad {α : Type} (σ : Env) (f : α → Heap → Flow) : (Res.bad : Res α).to σ f = .bad := rfl
@[simp] theorem Res.to_exc {α : Type} (c : Nat) (v : D) (h : Heap) (σ : Env) (f : α → Heap → Flow) : (Res.exc c v h : Res α).to σ f = .exc c v σ h := rfl
def Flow.then (r : Flow) (g : SS) : Flow :=
  match r with
  | .nx σ h => g σ h
  | r => r
def s_nil : SS := fun σ h => .nx σ h
def s_cons (f g : SS) : SS := fun σ h => (f σ h).then g
def s_bad : SS := fun _ _ => .bad
def s_expr (e : SE) : SS := fun σ h => (gc h (e σ h)).to σ fun _ h1 => .nx σ h1
def s_ret (e : SE) : SS := fun σ h => (e σ h).to σ fun x h1 => .rt x h1
def s_retN : SS := fun _ h => .rt .non h
def s_if (t : ST) (f g : SS) : SS := fun σ h => (gcB h (t σ h)).to σ fun b h1 => if b then f σ h1 else g σ h1
def s_brk : SS := fun σ h => .bk σ h
def s_cnt : SS := fun σ h => .ct σ h
/-- targets -/
abbrev SG := D → Env → Heap → Flow
def g_name (i : Nat) : SG := fun v σ h => .nx (σ.set i (some v)) h
def g_nil : List D → Env → Heap → Flow
  | [], σ, h => .nx σ h
  | _, _, _ => .bad
def g_cons (g : SG) (gs : List D → Env → Heap → Flow) : List D → Env → Heap → Flow
  | v :: vs, σ, h => (g v σ h).then (gs vs)
  | [], _, _ => .bad
def g_tup (n : Nat) (gs : List D → Env → Heap → Flow) : SG := fun v σ h => match v with
  | .tup ds => if ds.length = n then gs ds σ h else .bad
  | _ => .bad
/-- a store goes on -/
def onlyNx : Flow → Flow
  | .nx σ h => .nx σ h
  | _ => .bad
@[simp] theorem onlyNx_nx (σ : Env) (h : Heap) : onlyNx (.nx σ h) = .nx σ h := rfl
def s_asg (e : SE) (g : SG) : SS := fun σ h => (gc h (e σ h)).to σ fun x h1 => onlyNx (g x σ h1)
/-- a, b = e1, e2 (no tuple is made) -/
def s_par (i j : Nat) (a b : SE) : SS := fun σ h => (a σ h).to σ fun x h1 => (b σ h1).to σ fun y h2 => .nx ((σ.set i (some x)).set j (some y)) h2
/-- a, b, c = e1, e2, e3 -/
def s_par3 (i j k : Nat) (a b c : SE) : SS := fun σ h => (a σ h).to σ fun x h1 => (b σ h1).to σ fun y h2 => (c σ h2).to σ fun z h3 => .nx (((σ.set i (some x)).set j (some y)).set k (some z)) h3
/-- a op= e at a name -/
def s_aug (i : Nat) (op : D → D → Heap → Res D) (e : SE) : SS := fun σ h => match σ[i]? with
  | some (some x) => (e σ h).to σ fun y h1 => (op x y h1).to σ fun z h2 => .nx (σ.set i (some z)) h2
  | _ => .bad
/-- o[i] = e: e, then o, then i -/
def s_put (op : D → D → D → Heap → Res Unit) (o i e : SE) : SS := fun σ h => (e σ h).to σ fun v h1 => (o σ h1).to σ fun x h2 => (i σ h2).to σ fun y h3 => (op x y v h3).to σ fun _ h4 => .nx σ h4
/-- o.f = e: e, then o -/
def s_attr (f : String) (o e : SE) : SS := fun σ h => (e σ h).to σ fun v h1 => (o σ h1).to σ fun x h2 => match x with
  | .ref k => match h2[k]? with
    | some (.ins c fs) => if fs.length < 500 then .nx σ (h2.set k (.ins c (putF f v fs))) else .bad
    | _ => .bad
  | _ => .bad
where putF (f : String) (v : D) : List (String × D) → List (String × D)
  | [] => [(f, v)]
  | (g, x) :: r => if g = f then (g, v) :: r else (g, x) :: putF f v r

/-! ### loops -/
abbrev WF : Nat := 1073741824
def whileF (t : ST) (body : SS) : Nat → SS
  | 0 => s_bad
  | n + 1 => fun σ h => (gcB h (t σ h)).to σ fun b h1 =>
    if b then match body σ h1 with
      | .nx σ' h' => whileF t body n σ' h'
      | .ct σ' h' => whileF t body n σ' h'
      | .bk σ' h' => .nx σ' h'
      | r => r
    else .nx σ h1
def s_while (t : ST) (body : SS) : SS := whileF t body WF
/-- what is walked: the items, and a list that must stand still meanwhile -/
structure Src where
  items : List D
  still : List (Nat × LO) := []
abbrev SI := Env → Heap → Res Src
def Src.ok (s : Src) (h : Heap) : Bool := s.still.all fun p => decide (h[p.1]? = some p.2)
def forF (g : SG) (body : SS) (s : Src) : List D → SS
  | [], σ, h => if s.ok h then .nx σ h else .bad
  | x :: xs, σ, h => if s.ok h then
      match g x σ h with
      | .nx σ1 h1 => match body σ1 h1 with
        | .nx σ' h' => forF g body s xs σ' h'
        | .ct σ' h' => forF g body s xs σ' h'
        | .bk σ' h' => .nx σ' h'
        | r => r
      | _ => .bad
    else .bad
def s_for (it : SI) (g : SG) (body : SS) : SS := fun σ h => (it σ h).to σ fun s h1 => forF g body s s.items σ h1
/-- a list comprehension: the new list stands at D -/
def wipe (σ : Env) : List Nat → Env
  | [] => σ
  | v :: vs => (wipe σ vs).set v none
/-- an error can't leave -/
def noX {α : Type} : Res α → Res α
  | .ok a h => .ok a h
  | _ => .bad
@[simp] theorem noX_ok {α : Type} (a : α) (h : Heap) : noX (.ok a h) = .ok a h := rfl
def lcF (g : SG) (t : ST) (e : SE) (own : List Nat) (s : Src) (L : Nat) : List D → Env → Heap → Res Unit
  | [], _, h => if s.ok h then .ok () h else .bad
  | x :: xs, σ, h => if s.ok h then
      match g x σ h with
      | .nx σ1 h1 => (noX (gcB h1 (t σ1 h1))).bind fun b h2 =>
        if b then (noX (gc h2 (e σ1 h2))).bind fun y h3 => match h3[L]? with
          | some (.lst acc) => if acc.length < LIM then lcF g t e own s L xs σ (h3.set L (.lst (acc ++ [y]))) else .bad
          | _ => .bad
        else lcF g t e own s L xs σ h2
      | _ => .bad
    else .bad
def e_lc (it : SI) (g : SG) (t : ST) (e : SE) (own : List Nat) : SE := fun σ h => (it σ h).bind fun s h1 =>
  (lcF g t e own s h1.length s.items (wipe σ own) (h1 ++ [.lst []])).bind fun _ h2 => .ok (.ref h1.length) h2

/-! ### operations by values -/
abbrev O1 := D → Heap → Res D
abbrev O2 := D → D → Heap → Res D
abbrev BIG : Nat := 18446744073709551616
def okB (b : Bool) (h : Heap) : Res D := .ok (.bl b) h
def o_add : O2 := fun x y h => match x, y with
  | .int i, .int j => .ok (.int (i + j)) h
  | .str s, .str t => if s.length + t.length ≤ LIM then .ok (.str (s ++ t)) h else .bad
  | .tup s, .tup t => if s.length + t.length ≤ LIM then .ok (.tup (s ++ t)) h else .bad
  | .ref a, .ref b => match h[a]?, h[b]? with
    | some (.lst s), some (.lst t) => if s.length + t.length ≤ LIM then newO (.lst (s ++ t)) h else .bad
    | _, _ => .bad
  | _, _ => .bad
/-- of ints alone -/
def o_addI : O2 := fun x y h => match x, y with
  | .int i, .int j => .ok (.int (i + j)) h
  | _, _ => .bad
def o_subI : O2 := fun x y h => match x, y with
  | .int i, .int j => .ok (.int (i - j)) h
  | _, _ => .bad
def o_sub : O2 := fun x y h => match x, y with
  | .int i, .int j => .ok (.int (i - j)) h
  | _, _ => .bad
def o_mul : O2 := fun x y h => match x, y with
  | .int i, .int j => if i.natAbs < BIG ∨ j.natAbs < BIG then .ok (.int (i * j)) h else .bad
  | .str s, .int j => if j = 0 then .ok (.str []) h else if j = 1 then .ok (.str s) h else .bad
  | _, _ => .bad
def o_mod : O2 := fun x y h => match x, y with
  | .int i, .int j => if 0 < j then .ok (.int (i % j)) h else .bad
  | _, _ => .bad
def o_fdiv : O2 := fun x y h => match x, y with
  | .int i, .int j => if 0 < j ∧ j < 1073741824 then .ok (.int (i / j)) h else .bad
  | _, _ => .bad
def o_pow : O2 := fun x y h => match x, y with
  | .int i, .int j => if 0 ≤ j ∧ j ≤ 1000 ∧ i.natAbs.log2 < 4096 then .ok (.int (i ^ j.toNat)) h else .bad
  | _, _ => .bad
def o_neg : O1 := fun x h => match x with
  | .int i => .ok (.int (-i)) h
  | _ => .bad
/-- the order of texts -/
def ltT : Txt → Txt → Bool := fun s t => decide (s < t)
def o_lt : O2 := fun x y h => match x, y with
  | .int i, .int j => okB (decide (i < j)) h
  | .str s, .str t => okB (ltT s t) h
  | _, _ => .bad
def o_le : O2 := fun x y h => match x, y with
  | .int i, .int j => okB (decide (i ≤ j)) h
  | _, _ => .bad
def o_gt : O2 := fun x y h => match x, y with
  | .int i, .int j => okB (decide (j < i)) h
  | _, _ => .bad
def o_ge : O2 := fun x y h => match x, y with
  | .int i, .int j => okB (decide (j ≤ i)) h
  | _, _ => .bad
def eqD (h : Heap) (x y : D) : Option Bool := match rd h DEEP x, rd h DEEP y with
  | some p, some q => some (p.eqv q)
  | _, _ => none
def o_eq : O2 := fun x y h => (liftO (eqD h x y) h).bind okB
def o_ne : O2 := fun x y h => (liftO (eqD h x y) h).bind fun b => okB (!b)
def o_is : O2 := fun x y h => match y with
  | .non => okB (decide (x = .non)) h
  | _ => .bad
def o_isnot : O2 := fun x y h => match y with
  | .non => okB (!decide (x = .non)) h
  | _ => .bad
/-- flat values: what in is asked of -/
def flat : D → Option PD
  | .non => some .none
  | .bl b => some (.bool b)
  | .int i => some (.int i)
  | .str s => some (.str s)
  | _ => none
def isIn (h : Heap) (x y : D) : Option Bool := match x, y with
  | .str s, .str t => match s with
    | [c] => some (t.contains c)
    | _ => none
  | x, y => match items h y with
    | some ds => match flat x, mapO flat ds with
      | some p, some qs => some (qs.any fun q => q.eqv p)
      | _, _ => none
    | none => none
def o_in : O2 := fun x y h => (liftO (isIn h x y) h).bind okB
def o_notin : O2 := fun x y h => (liftO (isIn h x y) h).bind fun b => okB (!b)
def ixN (n : Nat) (i : Int) : Option Nat := if 0 ≤ i then (if i < n then some i.toNat else none) else (if 0 ≤ i + n then some (i + n).toNat else none)
def atI {α : Type} (xs : List α) (i : Int) : Option α := (ixN xs.length i).bind fun j => xs[j]?
def o_item : O2 := fun x y h => match x, y with
  | .str s, .int i => if s.length ≤ LIM then liftO ((atI s i).map fun c => .str [c]) h else .bad
  | x, .int i => match items h x with
    | some ds => liftO (atI ds i) h
    | none => .bad
  | _, _ => .bad
/-- bounds of a slice -/
def sIx (n d : Nat) : Option Int → Nat
  | none => d
  | some v => if v < 0 then (v + n).toNat else min v.toNat n
def cut {α : Type} (xs : List α) (lo hi : Option Int) : List α := (xs.drop (sIx xs.length 0 lo)).take (sIx xs.length xs.length hi - sIx xs.length 0 lo)
def asI : D → Option Int
  | .int i => some i
  | _ => none
abbrev SO := Env → Heap → Res (Option Int)
def so_none : SO := fun _ h => .ok none h
def so_some (e : SE) : SO := fun σ h => (e σ h).bind fun x h1 => (liftO (asI x) h1).bind fun i h1 => .ok (some i) h1
def o_slice (x : D) (lo hi : Option Int) (h : Heap) : Res D := match x with
  | .str s => if s.length ≤ LIM then .ok (.str (cut s lo hi)) h else .bad
  | .tup ds => .ok (.tup (cut ds lo hi)) h
  | .frz ds => newO (.lst (cut ds lo hi)) h
  | .ref k => match h[k]? with
    | some (.lst ds) => newO (.lst (cut ds lo hi)) h
    | _ => .bad
  | _ => .bad
def e_slice (a : SE) (lo hi : SO) : SE := fun σ h => (a σ h).bind fun x h1 => (lo σ h1).bind fun i h2 => (hi σ h2).bind fun j h3 => o_slice x i j h3

/-! ### built-ins by their arguments -/
abbrev OL := List D → Heap → Res D
def lenD (h : Heap) : D → Option Nat
  | .str s => if s.length ≤ LIM then some s.length else none
  | .tup ds => some ds.length
  | .frz ds => some ds.length
  | .ref k => match h[k]? with
    | some (.lst ds) => some ds.length
    | some (.dic kvs) => some kvs.length
    | _ => none
  | _ => none
def b_len : OL := fun xs h => match xs with
  | [x] => liftO ((lenD h x).map fun n => .int n) h
  | _ => .bad
def b_abs : OL := fun xs h => match xs with
  | [.int i] => .ok (.int (if i < 0 then -i else i)) h
  | _ => .bad
def b_int : OL := fun xs h => match xs with
  | [.int i] => .ok (.int i) h
  | [.bl b] => .ok (.int (if b then 1 else 0)) h
  | _ => .bad
/-- a truth by bool(..): of few kinds -/
def truthB (h : Heap) : D → Option Bool
  | .bl b => some b
  | .int i => some (i != 0)
  | .tup ds => some (!ds.isEmpty)
  | .frz ds => some (!ds.isEmpty)
  | .ref k => match h[k]? with
    | some (.lst ds) => some (!ds.isEmpty)
    | _ => none
  | _ => none
def b_bool : OL := fun xs h => match xs with
  | [x] => (liftO (truthB h x) h).bind okB
  | _ => .bad
def b_max : OL := fun xs h => match xs with
  | [.int i, .int j] => .ok (.int (if j > i then j else i)) h
  | _ => .bad
def b_min : OL := fun xs h => match xs with
  | [.int i, .int j] => .ok (.int (if j < i then j else i)) h
  | _ => .bad
def b_tuple : OL := fun xs h => match xs with
  | [x] => liftO ((items h x).map .tup) h
  | _ => .bad
def b_list : OL := fun xs h => match xs with
  | [x] => (liftO (items h x) h).bind fun ds h => newO (.lst ds) h
  | _ => .bad
def bools (h : Heap) : D → Option (List Bool)
  | .ref k => match h[k]? with
    | some (.lst ds) => mapO asB ds
    | _ => none
  | _ => none
def b_all : OL := fun xs h => match xs with
  | [x] => (liftO (bools h x) h).bind fun bs => okB (bs.all id)
  | _ => .bad
def b_any : OL := fun xs h => match xs with
  | [x] => (liftO (bools h x) h).bind fun bs => okB (bs.any id)
  | _ => .bad
def b_repr (κ : Kap) : OL := fun xs h => match xs with
  | [.ref k] => (liftO (rd h DEEP (.ref k)) h).bind fun p h => if p.fits then .ok (.str (κ.shown p)) h else .bad
  | [.tup ds] => (liftO (rd h DEEP (.tup ds)) h).bind fun p h => if p.fits then .ok (.str (κ.shown p)) h else .bad
  | _ => .bad
/-- isinstance of built-in types -/
inductive Ty where
  | tInt | tBool | tStr | tTuple | tList | tDict | own (c : Nat)
def Ty.bl : Ty → Bool
  | .tInt => true
  | .tBool => true
  | _ => false
def Ty.int : Ty → Bool
  | .tInt => true
  | _ => false
def Ty.str : Ty → Bool
  | .tStr => true
  | _ => false
def Ty.tup : Ty → Bool
  | .tTuple => true
  | _ => false
def Ty.lst : Ty → Bool
  | .tList => true
  | _ => false
def Ty.dic : Ty → Bool
  | .tDict => true
  | _ => false
def Ty.is (sub : Nat → Nat → Bool) (c : Nat) : Ty → Bool
  | .own d => sub c d
  | _ => false
def isTy (sub : Nat → Nat → Bool) (h : Heap) (x : D) (t : Ty) : Option Bool := match x with
  | .non => some false
  | .bl _ => some t.bl
  | .int _ => some t.int
  | .str _ => some t.str
  | .tup _ => some t.tup
  | .frz _ => some t.lst
  | .ref k => match h[k]? with
    | some (.lst _) => some t.lst
    | some (.dic _) => some t.dic
    | some (.ins c _) => some (t.is sub c)
    | none => none
def o_isa (sub : Nat → Nat → Bool) (t : Ty) : O1 := fun x h => (liftO (isTy sub h x t) h).bind okB

/-! ### methods of lists -/
def m_append : O2 := fun x y h => match x with
  | .ref k => match h[k]? with
    | some (.lst ds) => if ds.length < LIM then .ok .non (h.set k (.lst (ds ++ [y]))) else .bad
    | _ => .bad
  | _ => .bad
def isLst (h : Heap) : D → Bool
  | .ref k => match h[k]? with
    | some (.lst _) => true
    | _ => false
  | _ => false
/-- a method of a list, the list first looked at -/
def e_lm (op : O2) (a b : SE) : SE := fun σ h => (a σ h).bind fun x h1 => if isLst h1 x then (b σ h1).bind fun y h2 => op x y h2 else .bad
def e_lm3 (op : D → D → D → Heap → Res D) (a b c : SE) : SE := fun σ h => (a σ h).bind fun x h1 => if isLst h1 x then (b σ h1).bind fun y h2 => (c σ h2).bind fun z h3 => op x y z h3 else .bad
def insAt {α : Type} (xs : List α) (n : Nat) (y : α) : List α := xs.take n ++ y :: xs.drop n
def m_insert (x i y : D) (h : Heap) : Res D := match x, i with
  | .ref k, .int i => match h[k]? with
    | some (.lst ds) => if ds.length < LIM ∧ 0 ≤ i ∧ i ≤ ds.length then .ok .non (h.set k (.lst (insAt ds i.toNat y))) else .bad
    | _ => .bad
  | _, _ => .bad
/-- xs[i] = v -/
def p_list (x i v : D) (h : Heap) : Res Unit := match x, i with
  | .ref k, .int i => match h[k]? with
    | some (.lst ds) => if 0 ≤ i ∧ i < ds.length then .ok () (h.set k (.lst (ds.set i.toNat v))) else .bad
    | _ => .bad
  | _, _ => .bad

/-! ### what is walked -/
def i_list (e : SE) : SI := fun σ h => (e σ h).bind fun x h1 => match x with
  | .frz ds => .ok ⟨ds, []⟩ h1
  | .ref k => match h1[k]? with
    | some (.lst ds) => .ok ⟨ds, [(k, .lst ds)]⟩ h1
    | _ => .bad
  | _ => .bad
def i_tup (e : SE) : SI := fun σ h => (e σ h).bind fun x h1 => match x with
  | .tup ds => .ok ⟨ds, []⟩ h1
  | _ => .bad
def i_str (e : SE) : SI := fun σ h => (e σ h).bind fun x h1 => match x with
  | .str s => .ok ⟨s.map fun c => .str [c], []⟩ h1
  | _ => .bad
def rng (lo : Int) (n : Nat) (c : Int) : List D := (List.range n).map fun (k : Nat) => .int (lo + k * c)
abbrev B62 : Int := 4611686018427387904
abbrev B60 : Int := 1152921504606846976
def i_rng1 (e : SE) : SI := fun σ h => (e σ h).bind fun x h1 => match x with
  | .int j => if -B62 ≤ j ∧ j < B62 then .ok ⟨rng 0 j.toNat 1, []⟩ h1 else .bad
  | _ => .bad
def i_rng2 (a b : SE) : SI := fun σ h => (a σ h).bind fun x h1 => (b σ h1).bind fun y h2 => match x, y with
  | .int i, .int j => if -B62 ≤ i ∧ i < B62 ∧ -B62 ≤ j ∧ j < B62 then .ok ⟨rng i (j - i).toNat 1, []⟩ h2 else .bad
  | _, _ => .bad
/-- with a step above 0 -/
def i_rng3 (a b c : SE) : SI := fun σ h => (a σ h).bind fun x h1 => (b σ h1).bind fun y h2 => (c σ h2).bind fun z h3 => match x, y, z with
  | .int i, .int j, .int s => if -B60 ≤ i ∧ i < B60 ∧ -B60 ≤ j ∧ j < B60 ∧ 0 < s ∧ s < 1073741824 then .ok ⟨rng i ((j - i + s - 1) / s).toNat s, []⟩ h3 else .bad
  | _, _, _ => .bad
def zipD : List D → List D → List D
  | a :: as, b :: bs => .tup [a, b] :: zipD as bs
  | _, _ => []
/-- zip of two tuples -/
def i_zipT (a b : SE) : SI := fun σ h => (a σ h).bind fun x h1 => (b σ h1).bind fun y h2 => match x, y with
  | .tup s, .tup t => .ok ⟨zipD s t, []⟩ h2
  | _, _ => .bad

/-! ### instances -/
def fldD (h : Heap) (f : String) : D → Option D
  | .ref k => match h[k]? with
    | some (.ins _ fs) => fs.lookup f
    | _ => none
  | _ => none
def o_fld (f : String) : O1 := fun x h => liftO (fldD h f x) h
/-- the class of an instance -/
def clsD (h : Heap) : D → Option Nat
  | .ref k => match h[k]? with
    | some (.ins c _) => some c
    | _ => none
  | _ => none
/-- o.m(..), a method of the class c at the number f -/
def o_meth (κ : Kap) (c f : Nat) (x : D) : OL := fun ys h => if clsD h x = some c then κ.fn f (x :: ys) h else .bad
def e_meth (κ : Kap) (c f : Nat) (o : SE) (a : SA) : SE := fun σ h => (o σ h).bind fun x h1 => (a σ h1).bind fun ys h2 => o_meth κ c f x ys h2
/-- C(..): a new instance, then its __init__ -/
def o_new (κ : Kap) (c f : Nat) : OL := fun ys h => (κ.ini f (.ref h.length :: ys) (h ++ [.ins c []])).bind fun v h1 => if v = .non then .ok (.ref h.length) h1 else .bad
/-- a function of its arguments that is a def -/
def o_fn (κ : Kap) (f : Nat) : OL := κ.fn f
/-- o.f, a property -/
def e_prop (κ : Kap) (c f : Nat) (o : SE) : SE := fun σ h => (o σ h).bind fun x h1 => if clsD h1 x = some c then noX (κ.ini f [x] h1) else .bad
/-- a built-in function by an own method -/
def o_low (κ : Kap) (c f : Nat) : OL := fun xs h => match xs with
  | [x] => if clsD h x = some c then noX (κ.low f [x] h) else .bad
  | _ => .bad
/-- bool(..) by an own method -/
def b_own (low : OL) : OL := fun xs h => (low xs h).bind fun v h1 => (liftO (asB v) h1).bind okB
/-- what may stand beside an own one -/
def okR (h : Heap) (c : Nat) : D → Bool
  | .str _ => true
  | .ref k => clsD h (.ref k) == some c
  | _ => false
/-- an own operator: the left one's method, else the right one's (beside a text) -/
def o_own (κ : Kap) (c f fr : Nat) : O2 := fun x y h =>
  if clsD h x = some c then (if okR h c y then κ.fn f [x, y] h else .bad)
  else match x with
    | .str _ => if clsD h y = some c then κ.fn fr [y, x] h else .bad
    | _ => .bad
/-- in place -/
def o_ownI (κ : Kap) (c f fr : Nat) : O2 := fun x y h => if clsD h x = some c then noX (o_own κ c f fr x y h) else .bad
/-- an own comparison of two of a class -/
def o_cmp (κ : Kap) (c f : Nat) : O2 := fun x y h => if clsD h x = some c ∧ clsD h y = some c then κ.fn f [x, y] h else .bad
/-- == beside anything, by the left one's -/
def o_cmpA (κ : Kap) (c f : Nat) : O2 := fun x y h => if clsD h x = some c then (match y with
  | .frz _ => .bad
  | .ref k => if clsD h y = some c then κ.fn f [x, y] h else .bad
  | _ => κ.fn f [x, y] h) else .bad
/-- != of two of a class, by their == -/
def o_ncmp (κ : Kap) (c f : Nat) : O2 := fun x y h => if clsD h x = some c ∧ clsD h y = some c then (noX (κ.ini f [x, y] h)).bind fun v h1 => (liftO (asB v) h1).bind fun b => okB (!b) else .bad
/-- x in o -/
def o_ownIn (κ : Kap) (c f : Nat) : O2 := fun x y h => if clsD h y = some c then (κ.fn f [y, x] h).bind fun v h1 => (liftO (asB v) h1).bind okB else .bad

/-! ### defs -/
structure Def where
  np : Nat
  n : Nat
  body : Kap → SS
def runDef (κ : Kap) (d : Def) (args : List D) (h : Heap) : Res D :=
  if args.length = d.np then
    gc h (match d.body κ (args.map some ++ List.replicate (d.n - d.np) none) h with
      | .rt v h' => .ok v h'
      | .nx _ h' => .ok .non h'
      | .exc c v _ h' => .exc c v h'
      | _ => .bad)
  else .bad
structure Prog where
  defs : Nat → Option Def
  shown : PD → Txt
/-- calls at most so deep; behind three levels for what the machine itself puts between -/
def callF (P : Prog) : Nat → Nat → List D → Heap → Res D
  | n + 4, f, args, h => match P.defs f with
    | some d => runDef ⟨callF P (n + 3), callF P (n + 2), callF P n, P.shown⟩ d args h
    | none => .bad
  | _, _, _, _ => .bad
abbrev kap (P : Prog) (n : Nat) : Kap := ⟨callF P (n + 3), callF P (n + 2), callF P n, P.shown⟩
theorem callF_succ (P : Prog) (n f : Nat) (args : List D) (h : Heap) (d : Def) (e : P.defs f = some d) : callF P (n + 4) f args h = runDef (kap P n) d args h := by
  simp only [callF, e]
end IR
end

section
set_option linter.all false
set_option autoImplicit false
/-! tools for proofs about defs in the small semantics -/
namespace IR
theorem liftO_some {α : Type} (a : α) (h : Heap) : liftO (some a) h = .ok a h := rfl
theorem gc_int {h : Heap} {i : Int} : gc h (.ok (.int i) h) = .ok (.int i) h := gc_self rfl
theorem gc_bl {h : Heap} {b : Bool} : gc h (.ok (.bl b) h) = .ok (.bl b) h := gc_self rfl
theorem gc_str {h : Heap} {s : Txt} : gc h (.ok (.str s) h) = .ok (.str s) h := gc_self rfl
theorem gc_non {h : Heap} : gc h (.ok .non h) = .ok .non h := gc_self rfl
theorem gcB_self {h : Heap} {b : Bool} : gcB h (.ok b h) = .ok b h := by simp [gcB, agree_self]
theorem gcB_app {h g : Heap} {b : Bool} : gcB h (.ok b (h ++ g)) = .ok b h := by simp [gcB, agree_app]
theorem gcB_set {h g : Heap} {b : Bool} {p : Nat} {o : LO} (ho : o.pure = true) : gcB h (.ok b (h.set p o ++ g)) = .ok b (h.set p o) := by simp [gcB, agree_set, ho]
theorem gc_set0 {h : Heap} {v : D} {p : Nat} {o : LO} (hv : v.pure = true) (ho : o.pure = true) : gc h (.ok v (h.set p o)) = .ok v (h.set p o) := by
  have := gc_set (h := h) (g := []) (p := p) hv ho
  simpa using this
theorem gcB_set0 {h : Heap} {b : Bool} {p : Nat} {o : LO} (ho : o.pure = true) : gcB h (.ok b (h.set p o)) = .ok b (h.set p o) := by
  have := gcB_set (h := h) (g := []) (b := b) (p := p) ho
  simpa using this
theorem get_new {h : Heap} {o : LO} : (h ++ [o])[h.length]? = some o := by simp
theorem get_old {h g : Heap} {k : Nat} {o : LO} (e : h[k]? = some o) : (h ++ g)[k]? = some o := by
  rw [List.getElem?_append_left (List.getElem?_eq_some_iff.mp e).1]; exact e
theorem get_set {h : Heap} {k : Nat} {o o' : LO} (e : h[k]? = some o) : (h.set k o')[k]? = some o' := List.getElem?_set_self (List.getElem?_eq_some_iff.mp e).1
theorem get_lt {h : Heap} {k : Nat} {o : LO} (e : h[k]? = some o) : k < h.length := (List.getElem?_eq_some_iff.mp e).1
/-- a def's answer from its body's -/
theorem run_rt {κ : Kap} {d : Def} {args : List D} {h h' : Heap} {v : D} (hl : args.length = d.np) (e : d.body κ (args.map some ++ List.replicate (d.n - d.np) none) h = .rt v h') : runDef κ d args h = gc h (.ok v h') := by
  unfold runDef
  rw [if_pos hl, e]
theorem run_nx {κ : Kap} {d : Def} {args : List D} {h h' : Heap} {σ : Env} (hl : args.length = d.np) (e : d.body κ (args.map some ++ List.replicate (d.n - d.np) none) h = .nx σ h') : runDef κ d args h = gc h (.ok .non h') := by
  unfold runDef
  rw [if_pos hl, e]
/-! loops by an invariant -/
theorem drop_get {α : Type} {l : List α} {i : Nat} {x : α} {xs : List α} (e : l.drop i = x :: xs) : l[i]? = some x ∧ l.drop (i + 1) = xs := by
  constructor
  · have := congrArg List.head? e
    simpa [List.head?_drop] using this
  · have := congrArg List.tail e
    simpa [List.tail_drop] using this
theorem drop_nil {α : Type} {l : List α} {i : Nat} (e : l.drop i = []) : l.length ≤ i := by simpa using e
theorem set_new {h : Heap} {o o' : LO} : (h ++ [o]).set h.length o' = h ++ [o'] := by simp
theorem lc_go {g : SG} {t : ST} {e : SE} {own : List Nat} {src : Src} {σ : Env} {L : Nat} {I : Nat → Heap → List D → Prop}
    (hL : ∀ i h acc, I i h acc → h.length = L ∧ acc.length ≤ i ∧ src.ok (h ++ [.lst acc]) = true) (hm : src.items.length ≤ LIM)
    (step : ∀ i x h acc, src.items[i]? = some x → I i h acc → ∃ σ1, g x σ (h ++ [.lst acc]) = .nx σ1 (h ++ [.lst acc]) ∧ ∃ bb h1, gcB (h ++ [.lst acc]) (t σ1 (h ++ [.lst acc])) = .ok bb (h1 ++ [.lst acc]) ∧
      (bb = false → I (i + 1) h1 acc) ∧ (bb = true → ∃ y h2, gc (h1 ++ [.lst acc]) (e σ1 (h1 ++ [.lst acc])) = .ok y (h2 ++ [.lst acc]) ∧ h2.length = L ∧ I (i + 1) h2 (acc ++ [y]))) :
    ∀ (xs : List D) (i : Nat) (h : Heap) (acc : List D), src.items.drop i = xs → I i h acc → ∃ h' acc', I (max i src.items.length) h' acc' ∧ lcF g t e own src L xs σ (h ++ [.lst acc]) = .ok () (h' ++ [.lst acc'])
  | [], i, h, acc, e0, hI => by
    have hn := drop_nil e0
    refine ⟨h, acc, by rw [Nat.max_eq_left hn]; exact hI, ?_⟩
    simp only [lcF, (hL i h acc hI).2.2, if_true]
  | x :: xs, i, h, acc, e0, hI => by
    obtain ⟨e1, e2⟩ := drop_get e0
    have hi : i < src.items.length := (List.getElem?_eq_some_iff.mp e1).1
    obtain ⟨σ1, g1, bb, h1, t1, f, k⟩ := step i x h acc e1 hI
    obtain ⟨l1, l2, ok⟩ := hL i h acc hI
    cases bb with
    | false =>
      obtain ⟨h', acc', hI', r⟩ := lc_go hL hm step xs (i + 1) h1 acc e2 (f rfl)
      refine ⟨h', acc', by rw [Nat.max_eq_right (by omega)] at hI' ⊢; exact hI', ?_⟩
      simp only [lcF, ok, if_true, g1, t1, noX_ok, Res.bind_ok, Bool.false_eq_true, if_false]
      exact r
    | true =>
      obtain ⟨y, h2, ey, l3, hI2⟩ := k rfl
      obtain ⟨h', acc', hI', r⟩ := lc_go hL hm step xs (i + 1) h2 (acc ++ [y]) e2 hI2
      refine ⟨h', acc', by rw [Nat.max_eq_right (by omega)] at hI' ⊢; exact hI', ?_⟩
      have at_ : (h2 ++ [LO.lst acc])[L]? = some (.lst acc) := by rw [← l3]; exact get_new
      have st : (h2 ++ [LO.lst acc]).set L (.lst (acc ++ [y])) = h2 ++ [.lst (acc ++ [y])] := by rw [← l3]; exact set_new
      have hlt : acc.length < LIM := by omega
      simp only [lcF, ok, if_true, g1, t1, noX_ok, Res.bind_ok, ey, at_, hlt, st]
      exact r
theorem lc_inv {it : SI} {g : SG} {t : ST} {e : SE} {own : List Nat} {src : Src} {σ : Env} {h : Heap} (I : Nat → Heap → List D → Prop) (hi : it σ h = .ok src h)
    (hL : ∀ i h' acc, I i h' acc → h'.length = h.length ∧ acc.length ≤ i ∧ src.ok (h' ++ [.lst acc]) = true) (hm : src.items.length ≤ LIM) (h0 : I 0 h [])
    (step : ∀ i x h' acc, src.items[i]? = some x → I i h' acc → ∃ σ1, g x (wipe σ own) (h' ++ [.lst acc]) = .nx σ1 (h' ++ [.lst acc]) ∧ ∃ bb h1, gcB (h' ++ [.lst acc]) (t σ1 (h' ++ [.lst acc])) = .ok bb (h1 ++ [.lst acc]) ∧
      (bb = false → I (i + 1) h1 acc) ∧ (bb = true → ∃ y h2, gc (h1 ++ [.lst acc]) (e σ1 (h1 ++ [.lst acc])) = .ok y (h2 ++ [.lst acc]) ∧ h2.length = h.length ∧ I (i + 1) h2 (acc ++ [y]))) :
    ∃ h' acc, I src.items.length h' acc ∧ e_lc it g t e own σ h = .ok (.ref h.length) (h' ++ [.lst acc]) := by
  obtain ⟨h', acc, hI, r⟩ := lc_go (e := e) (own := own) (L := h.length) (σ := wipe σ own) hL hm step src.items 0 h [] rfl h0
  rw [Nat.max_eq_right (Nat.zero_le _)] at hI
  refine ⟨h', acc, hI, ?_⟩
  simp only [e_lc, hi, Res.bind_ok, r]
/-- no change of the heap -/
theorem lc_spec {it : SI} {g : SG} {t : ST} {e : SE} {own : List Nat} {src : Src} {σ : Env} {h : Heap} (b : D → Bool) (y : D → D) (hi : it σ h = .ok src h) (ho : ∀ acc, src.ok (h ++ [.lst acc]) = true) (hm : src.items.length ≤ LIM)
    (hs : ∀ x ∈ src.items, ∀ acc, ∃ σ1, g x (wipe σ own) (h ++ [.lst acc]) = .nx σ1 (h ++ [.lst acc]) ∧ t σ1 (h ++ [.lst acc]) = .ok (b x) (h ++ [.lst acc]) ∧ (b x = true → gc (h ++ [.lst acc]) (e σ1 (h ++ [.lst acc])) = .ok (y x) (h ++ [.lst acc]))) :
    e_lc it g t e own σ h = .ok (.ref h.length) (h ++ [.lst ((src.items.filter b).map y)]) := by
  obtain ⟨h', acc, ⟨rfl, rfl⟩, r⟩ := lc_inv (t := t) (e := e) (g := g) (own := own) (fun i h' acc => h' = h ∧ acc = ((src.items.take i).filter b).map y) hi (fun i h' acc ⟨e1, e2⟩ => by
      subst e1 e2
      refine ⟨rfl, ?_, ho _⟩
      rw [List.length_map]
      exact Nat.le_trans (List.length_filter_le _ _) (by rw [List.length_take]; exact Nat.min_le_left _ _)) hm ⟨rfl, by simp⟩ (fun i x h' acc hx ⟨e1, e2⟩ => by
      subst e1
      obtain ⟨σ1, g1, t1, k⟩ := hs x (List.mem_of_getElem? hx) acc
      have tk : src.items.take (i + 1) = src.items.take i ++ [x] := by
        rw [List.take_add_one, hx]; rfl
      refine ⟨σ1, g1, b x, h', by rw [t1]; exact gcB_self, fun hb => ⟨rfl, ?_⟩, fun hb => ⟨y x, h', k hb, rfl, rfl, ?_⟩⟩
      · rw [e2, tk, List.filter_append, List.map_append]
        simp [hb]
      · rw [e2, tk, List.filter_append, List.map_append]
        simp [hb])
  rw [r, List.take_length]
/-- .. without a test -/
theorem lc_all {it : SI} {g : SG} {e : SE} {own : List Nat} {src : Src} {σ : Env} {h : Heap} (y : D → D) (hi : it σ h = .ok src h) (ho : ∀ acc, src.ok (h ++ [.lst acc]) = true) (hm : src.items.length ≤ LIM)
    (hs : ∀ x ∈ src.items, ∀ acc, ∃ σ1, g x (wipe σ own) (h ++ [.lst acc]) = .nx σ1 (h ++ [.lst acc]) ∧ gc (h ++ [.lst acc]) (e σ1 (h ++ [.lst acc])) = .ok (y x) (h ++ [.lst acc])) :
    e_lc it g t_yes e own σ h = .ok (.ref h.length) (h ++ [.lst (src.items.map y)]) := by
  have := lc_spec (t := t_yes) (fun _ => true) y hi ho hm (fun x hx acc => by
    obtain ⟨σ1, g1, e1⟩ := hs x hx acc
    exact ⟨σ1, g1, rfl, fun _ => e1⟩)
  rw [List.filter_eq_self.mpr (fun _ _ => rfl)] at this
  exact this
theorem mapO_bl (bs : List Bool) : mapO asB (bs.map .bl) = some bs := by
  induction bs with
  | nil => rfl
  | cons b r ih => simp [mapO, asB, ih]
/-- all([..]) of tests -/
theorem all_new {h : Heap} {xs : List D} {b : D → Bool} : b_all [.ref h.length] (h ++ [.lst (xs.map fun x => .bl (b x))]) = .ok (.bl (xs.all b)) (h ++ [.lst (xs.map fun x => .bl (b x))]) := by
  have e : (xs.map fun x => D.bl (b x)) = (xs.map b).map .bl := by simp
  simp only [b_all, bools, get_new]
  rw [e, mapO_bl]
  simp [liftO_some, okB]
theorem all_true {h : Heap} {xs : List D} : b_all [.ref h.length] (h ++ [.lst (xs.map fun _ => .bl true)]) = .ok (.bl true) (h ++ [.lst (xs.map fun _ => .bl true)]) := by
  have := all_new (h := h) (xs := xs) (b := fun _ => true)
  rw [List.all_eq_true.mpr (fun _ _ => rfl)] at this
  exact this
theorem mid_get {h g : Heap} {o : LO} : (h ++ o :: g)[h.length]? = some o := by simp
theorem mid_set {h g : Heap} {o o' : LO} : (h ++ o :: g).set h.length o' = h ++ o' :: g := by simp
/-- a comprehension whose elements leave new objects behind the list -/
theorem mid_go {g : SG} {t : ST} {e : SE} {own : List Nat} {src : Src} {σ : Env} {h : Heap} {I : Nat → Heap → List D → Prop}
    (hL : ∀ i x acc, I i x acc → acc.length ≤ i ∧ src.ok (h ++ .lst acc :: x) = true) (hm : src.items.length ≤ LIM)
    (step : ∀ i x z acc, src.items[i]? = some z → I i x acc → ∃ σ1, g z σ (h ++ .lst acc :: x) = .nx σ1 (h ++ .lst acc :: x) ∧ ∃ bb, t σ1 (h ++ .lst acc :: x) = .ok bb (h ++ .lst acc :: x) ∧
      (bb = false → I (i + 1) x acc) ∧ (bb = true → ∃ y x', gc (h ++ .lst acc :: x) (e σ1 (h ++ .lst acc :: x)) = .ok y (h ++ .lst acc :: x') ∧ I (i + 1) x' (acc ++ [y]))) :
    ∀ (zs : List D) (i : Nat) (x : Heap) (acc : List D), src.items.drop i = zs → I i x acc → ∃ x' acc', I (max i src.items.length) x' acc' ∧ lcF g t e own src h.length zs σ (h ++ .lst acc :: x) = .ok () (h ++ .lst acc' :: x')
  | [], i, x, acc, e0, hI => ⟨x, acc, by rw [Nat.max_eq_left (drop_nil e0)]; exact hI, by simp only [lcF, (hL i x acc hI).2, if_true]⟩
  | z :: zs, i, x, acc, e0, hI => by
    obtain ⟨e1, e2⟩ := drop_get e0
    have hi : i < src.items.length := (List.getElem?_eq_some_iff.mp e1).1
    obtain ⟨σ1, g1, bb, t1, f, k⟩ := step i x z acc e1 hI
    obtain ⟨l2, ok⟩ := hL i x acc hI
    cases bb with
    | false =>
      obtain ⟨x', acc', hI', r⟩ := mid_go hL hm step zs (i + 1) x acc e2 (f rfl)
      refine ⟨x', acc', by rw [Nat.max_eq_right (by omega)] at hI' ⊢; exact hI', ?_⟩
      simp only [lcF, ok, if_true, g1, t1, gcB_self, noX_ok, Res.bind_ok, Bool.false_eq_true, if_false]
      exact r
    | true =>
      obtain ⟨y, x2, ey, hI2⟩ := k rfl
      obtain ⟨x', acc', hI', r⟩ := mid_go hL hm step zs (i + 1) x2 (acc ++ [y]) e2 hI2
      refine ⟨x', acc', by rw [Nat.max_eq_right (by omega)] at hI' ⊢; exact hI', ?_⟩
      have hlt : acc.length < LIM := by omega
      simp only [lcF, ok, if_true, g1, t1, gcB_self, noX_ok, Res.bind_ok, ey, mid_get, hlt, mid_set]
      exact r
theorem lc_mid {it : SI} {g : SG} {t : ST} {e : SE} {own : List Nat} {src : Src} {σ : Env} {h : Heap} (I : Nat → Heap → List D → Prop) (hi : it σ h = .ok src h)
    (hL : ∀ i x acc, I i x acc → acc.length ≤ i ∧ src.ok (h ++ .lst acc :: x) = true) (hm : src.items.length ≤ LIM) (h0 : I 0 [] [])
    (step : ∀ i x z acc, src.items[i]? = some z → I i x acc → ∃ σ1, g z (wipe σ own) (h ++ .lst acc :: x) = .nx σ1 (h ++ .lst acc :: x) ∧ ∃ bb, t σ1 (h ++ .lst acc :: x) = .ok bb (h ++ .lst acc :: x) ∧
      (bb = false → I (i + 1) x acc) ∧ (bb = true → ∃ y x', gc (h ++ .lst acc :: x) (e σ1 (h ++ .lst acc :: x)) = .ok y (h ++ .lst acc :: x') ∧ I (i + 1) x' (acc ++ [y]))) :
    ∃ x acc, I src.items.length x acc ∧ e_lc it g t e own σ h = .ok (.ref h.length) (h ++ .lst acc :: x) := by
  obtain ⟨x, acc, hI, r⟩ := mid_go (e := e) (own := own) (σ := wipe σ own) hL hm step src.items 0 [] [] rfl h0
  rw [Nat.max_eq_right (Nat.zero_le _)] at hI
  exact ⟨x, acc, hI, by simp only [e_lc, hi, Res.bind_ok, r]⟩
theorem for_go {g : SG} {body : SS} {src : Src} {I : Nat → Env → Heap → Prop} (ok : ∀ i σ h, I i σ h → src.ok h = true)
    (step : ∀ i x σ h, src.items[i]? = some x → I i σ h → ∃ σ1, g x σ h = .nx σ1 h ∧ ∃ σ' h', body σ1 h = .nx σ' h' ∧ I (i + 1) σ' h') :
    ∀ (xs : List D) (i : Nat) (σ : Env) (h : Heap), src.items.drop i = xs → I i σ h → ∃ σ' h', I (max i src.items.length) σ' h' ∧ forF g body src xs σ h = .nx σ' h'
  | [], i, σ, h, e0, hI => ⟨σ, h, by rw [Nat.max_eq_left (drop_nil e0)]; exact hI, by simp only [forF, ok i σ h hI, if_true]⟩
  | x :: xs, i, σ, h, e0, hI => by
    obtain ⟨e1, e2⟩ := drop_get e0
    have hi : i < src.items.length := (List.getElem?_eq_some_iff.mp e1).1
    obtain ⟨σ1, g1, σ', h', b1, hI'⟩ := step i x σ h e1 hI
    obtain ⟨σ2, h2, hI2, r⟩ := for_go ok step xs (i + 1) σ' h' e2 hI'
    refine ⟨σ2, h2, by rw [Nat.max_eq_right (by omega)] at hI2 ⊢; exact hI2, ?_⟩
    simp only [forF, ok i σ h hI, if_true, g1, b1]
    exact r
/-- a for loop that runs to its end -/
theorem for_inv {it : SI} {g : SG} {body : SS} {src : Src} {σ : Env} {h h1 : Heap} (I : Nat → Env → Heap → Prop) (hi : it σ h = .ok src h1) (ok : ∀ i σ h, I i σ h → src.ok h = true) (h0 : I 0 σ h1)
    (step : ∀ i x σ h, src.items[i]? = some x → I i σ h → ∃ σ1, g x σ h = .nx σ1 h ∧ ∃ σ' h', body σ1 h = .nx σ' h' ∧ I (i + 1) σ' h') : ∃ σ' h', I src.items.length σ' h' ∧ s_for it g body σ h = .nx σ' h' := by
  obtain ⟨σ', h', hI, r⟩ := for_go ok step src.items 0 σ h1 rfl h0
  rw [Nat.max_eq_right (Nat.zero_le _)] at hI
  exact ⟨σ', h', hI, by simp only [s_for, hi, Res.to_ok, r]⟩
/-- a while loop that ends by its test; m: what gets smaller -/
theorem while_go {t : ST} {body : SS} {I : Env → Heap → Prop} {m : Env → Heap → Nat} {Z : Env → Heap → Prop}
    (step : ∀ σ h, I σ h → ∃ b h1, gcB h (t σ h) = .ok b h1 ∧ (b = false → Z σ h1) ∧ (b = true → ∃ σ' h', body σ h1 = .nx σ' h' ∧ I σ' h' ∧ m σ' h' < m σ h)) :
    ∀ (n : Nat) (σ : Env) (h : Heap), I σ h → m σ h < n → ∃ σ' h', Z σ' h' ∧ whileF t body n σ h = .nx σ' h'
  | 0, σ, h, _, hl => absurd hl (Nat.not_lt_zero _)
  | n + 1, σ, h, hI, hl => by
    obtain ⟨b, h1, t1, f, k⟩ := step σ h hI
    cases b with
    | false => exact ⟨σ, h1, f rfl, by simp only [whileF, t1, Res.to_ok, Bool.false_eq_true, if_false]⟩
    | true =>
      obtain ⟨σ', h', b1, hI', lt⟩ := k rfl
      obtain ⟨σ2, h2, z, r⟩ := while_go step n σ' h' hI' (by omega)
      exact ⟨σ2, h2, z, by simp only [whileF, t1, Res.to_ok, if_true, b1]; exact r⟩
theorem while_inv {t : ST} {body : SS} {σ : Env} {h : Heap} (I : Env → Heap → Prop) (m : Env → Heap → Nat) (Z : Env → Heap → Prop) (h0 : I σ h) (hm : m σ h < WF)
    (step : ∀ σ h, I σ h → ∃ b h1, gcB h (t σ h) = .ok b h1 ∧ (b = false → Z σ h1) ∧ (b = true → ∃ σ' h', body σ h1 = .nx σ' h' ∧ I σ' h' ∧ m σ' h' < m σ h)) : ∃ σ' h', Z σ' h' ∧ s_while t body σ h = .nx σ' h' :=
  while_go step WF σ h h0 hm
end IR
end

section
set_option linter.all false
set_option autoImplicit false
/-! texts in order; lists of texts in the small semantics -/
namespace IR
theorem txt_irrefl (a : Txt) : ¬ a < a := List.lt_irrefl a
theorem txt_trans {a b c : Txt} (h : a < b) (k : b < c) : a < c := List.lt_trans h k
theorem txt_total {a b : Txt} (h : ¬ a < b) (n : a ≠ b) : b < a := by
  rcases Std.Trichotomous.rel_or_eq_or_rel_swap (r := (· < · : Txt → Txt → Prop)) (a := a) (b := b) with x | x | x
  · exact (h x).elim
  · exact (n x).elim
  · exact x
abbrev Asc (l : List Txt) : Prop := l.Pairwise (· < ·)
abbrev txts (l : List Txt) : List D := l.map .str
theorem pures_strs (l : List Txt) : D.pures (txts l) = true := by
  induction l with
  | nil => rfl
  | cons a r ih => simp [D.pures, D.pure, ih]
theorem flat_strs (l : List Txt) : mapO flat (txts l) = some (l.map PD.str) := by
  induction l with
  | nil => rfl
  | cons a r ih => simp [mapO, flat, ih]
theorem any_strs (l : List Txt) (x : Txt) : ((l.map PD.str).any fun q => q.eqv (.str x)) = decide (x ∈ l) := by
  induction l with
  | nil => rfl
  | cons a r ih =>
    rw [List.map_cons, List.any_cons, ih]
    by_cases h : x = a
    · subst h; simp [PD.eqv]
    · have : (a == x) = false := beq_eq_false_iff_ne.mpr (Ne.symm h)
      simp [PD.eqv, this, h]
theorem isIn_ref {h : Heap} {k : Nat} {l : List Txt} {x : Txt} (e : h[k]? = some (.lst (txts l))) : isIn h (.str x) (.ref k) = some (decide (x ∈ l)) := by
  simp only [isIn, items, e, flat_strs, any_strs, flat]
theorem isIn_tup {h : Heap} {l : List Txt} {x : Txt} : isIn h (.str x) (.tup (txts l)) = some (decide (x ∈ l)) := by
  simp only [isIn, items, flat_strs, any_strs, flat]
/-- a list in order is known by what is in it -/
theorem asc_ext : ∀ {l m : List Txt}, Asc l → Asc m → (∀ x, x ∈ l ↔ x ∈ m) → l = m
  | [], [], _, _, _ => rfl
  | [], b :: m, _, _, h => by have := (h b).mpr List.mem_cons_self; cases this
  | a :: l, [], _, _, h => by have := (h a).mp List.mem_cons_self; cases this
  | a :: l, b :: m, hl, hm, h => by
    rw [Asc, List.pairwise_cons] at hl hm
    have ab : a = b := by
      rcases List.mem_cons.mp ((h a).mp List.mem_cons_self) with e | e
      · exact e
      · rcases List.mem_cons.mp ((h b).mpr List.mem_cons_self) with e2 | e2
        · exact e2.symm
        · exact (txt_irrefl a (txt_trans (hl.1 b e2) (hm.1 a e))).elim
    subst ab
    rw [asc_ext hl.2 hm.2 fun x => ?_]
    have hx := h x
    simp only [List.mem_cons] at hx
    constructor
    · intro q
      rcases hx.mp (.inr q) with e | e
      · subst e; exact (txt_irrefl x (hl.1 x q)).elim
      · exact e
    · intro q
      rcases hx.mpr (.inr q) with e | e
      · subst e; exact (txt_irrefl x (hm.1 x q)).elim
      · exact e
theorem asc_ins {l : List Txt} {n : Nat} {x : Txt} (hl : Asc l) (h1 : ∀ y ∈ l.take n, y < x) (h2 : ∀ y ∈ l.drop n, x < y) : Asc (insAt l n x) := by
  unfold insAt
  have hs := List.take_append_drop n l
  rw [Asc, ← hs, List.pairwise_append] at hl
  rw [Asc, List.pairwise_append, List.pairwise_cons]
  refine ⟨hl.1, ⟨h2, hl.2.1⟩, fun a ha b hb => ?_⟩
  rcases List.mem_cons.mp hb with e | e
  · subst e; exact h1 a ha
  · exact txt_trans (h1 a ha) (h2 b e)
theorem mem_ins {l : List Txt} {n : Nat} {x y : Txt} : y ∈ insAt l n x ↔ y = x ∨ y ∈ l := by
  unfold insAt
  have hs := List.take_append_drop n l
  constructor
  · intro h
    rcases List.mem_append.mp h with h | h
    · exact .inr (List.mem_of_mem_take h)
    · rcases List.mem_cons.mp h with h | h
      · exact .inl h
      · exact .inr (List.mem_of_mem_drop h)
  · rintro (h | h)
    · subst h; simp
    · rw [← hs] at h
      rcases List.mem_append.mp h with h | h
      · exact List.mem_append.mpr (.inl h)
      · exact List.mem_append.mpr (.inr (List.mem_cons_of_mem _ h))
theorem ins_strs (l : List Txt) (n : Nat) (x : Txt) : insAt (txts l) n (.str x) = txts (insAt l n x) := by
  simp [insAt, List.map_take, List.map_drop]
end IR
end

section
set_option Elab.async false
set_option linter.all false
set_option autoImplicit false
set_option maxRecDepth 100000
set_option maxHeartbeats 4000000
/-! The small semantics holds of the big one: one lemma a combinator, over the hand layer. -/
namespace IR
open PySem PySem.Spec PyProof.Rows L2

abbrev toStr (s : Txt) : Str := ⟨s.toArray⟩
/-- code points -/
def okT (s : Txt) : Prop := ∀ c ∈ s, c < 1114112
/-- what an address of a class, a field's name, is -/
structure Wd where
  K : PySem.W.Frag
  cl : Nat → Addr
  fld : String → Str

/-- a list that nobody writes -/
def SqF (K : PySem.W.Frag) (H : Hp) (a : Addr) (xs : List V) : Prop := (∃ o, H a = some (.frz o (.lst xs))) ∨ ∀ H', SqL K H' a xs
theorem SqF.sql {K : PySem.W.Frag} {H : Hp} {a : Addr} {xs : List V} (h : SqF K H a xs) : SqL K H a xs := h.elim (fun ⟨o, e⟩ => .inl (.inr ⟨o, e⟩)) fun h => h H
section rep
variable (K : PySem.W.Frag)
mutual
def Rep (α : List Addr) (H : Hp) : D → V → Prop
  | .non, v => v = .non
  | .bl b, v => v = .bl b
  | .int i, v => v = .int i
  | .str s, v => v = .str (toStr s) ∧ okT s
  | .tup ds, v => ∃ p vs, v = .ref p ∧ SqT K H p vs ∧ Reps α H ds vs
  | .frz ds, v => ∃ p vs, v = .ref p ∧ SqF K H p vs ∧ Reps α H ds vs
  | .ref k, v => ∃ a, α[k]? = some a ∧ v = .ref a
def Reps (α : List Addr) (H : Hp) : List D → List V → Prop
  | [], vs => vs = []
  | d :: ds, vs => ∃ v r, vs = v :: r ∧ Rep α H d v ∧ Reps α H ds r
end
end rep

/-- later: more objects, the tuples stand -/
structure Le (K : PySem.W.Frag) (α : List Addr) (H : Hp) (α' : List Addr) (H' : Hp) : Prop where
  pre : ∃ g, α' = α ++ g
  tup : ∀ p vs, SqT K H p vs → SqT K H' p vs
  frz : ∀ p vs, SqF K H p vs → SqF K H' p vs
theorem Le.refl {K : PySem.W.Frag} {α : List Addr} {H : Hp} : Le K α H α H := ⟨⟨[], by simp⟩, fun _ _ h => h, fun _ _ h => h⟩
theorem Le.trans {K : PySem.W.Frag} {α β γ : List Addr} {H H1 H2 : Hp} (a : Le K α H β H1) (b : Le K β H1 γ H2) : Le K α H γ H2 := by
  obtain ⟨g, rfl⟩ := a.pre
  obtain ⟨g', rfl⟩ := b.pre
  exact ⟨⟨g ++ g', by rw [List.append_assoc]⟩, fun p vs h => b.tup p vs (a.tup p vs h), fun p vs h => b.frz p vs (a.frz p vs h)⟩

section
variable {K : PySem.W.Frag} {α α' : List Addr} {H H' : Hp}
mutual
theorem Rep.mono (le : Le K α H α' H') : ∀ {d : D} {v : V}, Rep K α H d v → Rep K α' H' d v
  | .non, v, h => by simpa only [Rep] using h
  | .bl b, v, h => by simpa only [Rep] using h
  | .int i, v, h => by simpa only [Rep] using h
  | .str s, v, h => by simpa only [Rep] using h
  | .tup ds, v, h => by
    simp only [Rep] at h ⊢
    obtain ⟨p, vs, e, q, r⟩ := h
    exact ⟨p, vs, e, le.tup p vs q, Reps.mono le r⟩
  | .frz ds, v, h => by
    simp only [Rep] at h ⊢
    obtain ⟨p, vs, e, q, r⟩ := h
    exact ⟨p, vs, e, le.frz p vs q, Reps.mono le r⟩
  | .ref k, v, h => by
    simp only [Rep] at h ⊢
    obtain ⟨a, e, q⟩ := h
    obtain ⟨g, rfl⟩ := le.pre
    exact ⟨a, by rw [List.getElem?_append_left (List.getElem?_eq_some_iff.mp e).1]; exact e, q⟩
theorem Reps.mono (le : Le K α H α' H') : ∀ {ds : List D} {vs : List V}, Reps K α H ds vs → Reps K α' H' ds vs
  | [], vs, h => by simpa only [Reps] using h
  | d :: ds, vs, h => by
    simp only [Reps] at h ⊢
    obtain ⟨v, r, e, q, t⟩ := h
    exact ⟨v, r, e, Rep.mono le q, Reps.mono le t⟩
end
end

mutual
def bnd (n : Nat) : D → Prop
  | .tup ds => bnds n ds
  | .frz ds => bnds n ds
  | .ref k => k < n
  | _ => True
def bnds (n : Nat) : List D → Prop
  | [] => True
  | d :: ds => bnd n d ∧ bnds n ds
end
mutual
theorem bnd_pure {n : Nat} : ∀ {d : D}, d.pure = true → bnd n d
  | .non, _ => by simp only [bnd]
  | .bl b, _ => by simp only [bnd]
  | .int i, _ => by simp only [bnd]
  | .str s, _ => by simp only [bnd]
  | .tup ds, h => by simp only [bnd]; exact bnds_pure (by simpa only [D.pure] using h)
  | .frz ds, h => by simp only [bnd]; exact bnds_pure (by simpa only [D.pure] using h)
  | .ref k, h => by simp [D.pure] at h
theorem bnds_pure {n : Nat} : ∀ {ds : List D}, D.pures ds = true → bnds n ds
  | [], _ => by simp only [bnds]
  | d :: ds, h => by
    simp only [D.pures, Bool.and_eq_true] at h
    simp only [bnds]
    exact ⟨bnd_pure h.1, bnds_pure h.2⟩
end
section
variable {K : PySem.W.Frag} {α β : List Addr} {H : Hp}
mutual
theorem Rep.bnd : ∀ {d : D} {v : V}, Rep K α H d v → bnd α.length d
  | .non, v, h => by simp only [IR.bnd]
  | .bl b, v, h => by simp only [IR.bnd]
  | .int i, v, h => by simp only [IR.bnd]
  | .str s, v, h => by simp only [IR.bnd]
  | .tup ds, v, h => by
    simp only [Rep] at h
    simp only [IR.bnd]
    obtain ⟨p, vs, e, q, r⟩ := h
    exact Reps.bnd r
  | .frz ds, v, h => by
    simp only [Rep] at h
    simp only [IR.bnd]
    obtain ⟨p, vs, e, q, r⟩ := h
    exact Reps.bnd r
  | .ref k, v, h => by
    simp only [Rep] at h
    simp only [IR.bnd]
    obtain ⟨a, e, q⟩ := h
    exact (List.getElem?_eq_some_iff.mp e).1
theorem Reps.bnd : ∀ {ds : List D} {vs : List V}, Reps K α H ds vs → bnds α.length ds
  | [], vs, h => by simp only [bnds]
  | d :: ds, vs, h => by
    simp only [Reps] at h
    simp only [bnds]
    obtain ⟨v, r, e, q, t⟩ := h
    exact ⟨Rep.bnd q, Reps.bnd t⟩
end
mutual
/-- fewer objects known, those that are spoken of among them -/
theorem Rep.cut {g : List Addr} (e0 : β = α ++ g) : ∀ {d : D} {v : V}, Rep K β H d v → bnd α.length d → Rep K α H d v
  | .non, v, h, _ => by simpa only [Rep] using h
  | .bl b, v, h, _ => by simpa only [Rep] using h
  | .int i, v, h, _ => by simpa only [Rep] using h
  | .str s, v, h, _ => by simpa only [Rep] using h
  | .tup ds, v, h, b => by
    simp only [Rep] at h ⊢
    simp only [IR.bnd] at b
    obtain ⟨p, vs, e, q, r⟩ := h
    exact ⟨p, vs, e, q, Reps.cut e0 r b⟩
  | .frz ds, v, h, b => by
    simp only [Rep] at h ⊢
    simp only [IR.bnd] at b
    obtain ⟨p, vs, e, q, r⟩ := h
    exact ⟨p, vs, e, q, Reps.cut e0 r b⟩
  | .ref k, v, h, b => by
    simp only [Rep] at h ⊢
    simp only [IR.bnd] at b
    obtain ⟨a, e, q⟩ := h
    subst e0
    exact ⟨a, by rw [List.getElem?_append_left b] at e; exact e, q⟩
theorem Reps.cut {g : List Addr} (e0 : β = α ++ g) : ∀ {ds : List D} {vs : List V}, Reps K β H ds vs → bnds α.length ds → Reps K α H ds vs
  | [], vs, h, _ => by simpa only [Reps] using h
  | d :: ds, vs, h, b => by
    simp only [Reps] at h ⊢
    simp only [bnds] at b
    obtain ⟨v, r, e, q, t⟩ := h
    exact ⟨v, r, e, Rep.cut e0 q b.1, Reps.cut e0 t b.2⟩
end
mutual
/-- data needs no objects -/
theorem Rep.any (γ : List Addr) : ∀ {d : D} {v : V}, d.pure = true → Rep K α H d v → Rep K γ H d v
  | .non, v, _, h => by simpa only [Rep] using h
  | .bl b, v, _, h => by simpa only [Rep] using h
  | .int i, v, _, h => by simpa only [Rep] using h
  | .str s, v, _, h => by simpa only [Rep] using h
  | .tup ds, v, p, h => by
    simp only [Rep] at h ⊢
    obtain ⟨a, vs, e, q, r⟩ := h
    exact ⟨a, vs, e, q, Reps.any γ (by simpa only [D.pure] using p) r⟩
  | .frz ds, v, p, h => by
    simp only [Rep] at h ⊢
    obtain ⟨a, vs, e, q, r⟩ := h
    exact ⟨a, vs, e, q, Reps.any γ (by simpa only [D.pure] using p) r⟩
  | .ref k, v, p, h => by simp [D.pure] at p
theorem Reps.any (γ : List Addr) : ∀ {ds : List D} {vs : List V}, D.pures ds = true → Reps K α H ds vs → Reps K γ H ds vs
  | [], vs, _, h => by simpa only [Reps] using h
  | d :: ds, vs, p, h => by
    simp only [Reps] at h ⊢
    simp only [D.pures, Bool.and_eq_true] at p
    obtain ⟨v, r, e, q, t⟩ := h
    exact ⟨v, r, e, Rep.any γ p.1 q, Reps.any γ p.2 t⟩
end
theorem Reps.length : ∀ {ds : List D} {vs : List V}, Reps K α H ds vs → ds.length = vs.length
  | [], vs, h => by simp only [Reps] at h; subst h; rfl
  | d :: ds, vs, h => by
    simp only [Reps] at h
    obtain ⟨v, r, rfl, q, t⟩ := h
    rw [List.length_cons, List.length_cons, Reps.length t]
theorem Reps.get : ∀ {ds : List D} {vs : List V} {i : Nat} {d : D}, Reps K α H ds vs → ds[i]? = some d → ∃ v, vs[i]? = some v ∧ Rep K α H d v
  | [], vs, i, d, h, e => by simp at e
  | c :: ds, vs, i, d, h, e => by
    simp only [Reps] at h
    obtain ⟨v, r, rfl, q, t⟩ := h
    cases i with
    | zero => simp at e; subst e; exact ⟨v, by simp, q⟩
    | succ i => simp at e; obtain ⟨u, hu, ru⟩ := Reps.get t e; exact ⟨u, by simpa using hu, ru⟩
theorem Reps.append : ∀ {ds es : List D} {vs us : List V}, Reps K α H ds vs → Reps K α H es us → Reps K α H (ds ++ es) (vs ++ us)
  | [], es, vs, us, h, h' => by simp only [Reps] at h; subst h; simpa using h'
  | d :: ds, es, vs, us, h, h' => by
    simp only [Reps] at h
    obtain ⟨v, r, rfl, q, t⟩ := h
    simp only [List.cons_append, Reps]
    exact ⟨v, r ++ us, rfl, q, Reps.append t h'⟩
theorem Reps.set : ∀ {ds : List D} {vs : List V} {d : D} {v : V} (i : Nat), Reps K α H ds vs → Rep K α H d v → Reps K α H (ds.set i d) (vs.set i v)
  | [], vs, d, v, i, h, r => by simp only [Reps] at h; subst h; simp [Reps]
  | c :: ds, vs, d, v, i, h, q => by
    simp only [Reps] at h
    obtain ⟨u, r, rfl, qu, t⟩ := h
    cases i with
    | zero => simp only [List.set_cons_zero, Reps]; exact ⟨v, r, rfl, q, t⟩
    | succ i => simp only [List.set_cons_succ, Reps]; exact ⟨u, r.set i v, rfl, qu, Reps.set i t q⟩
theorem Reps.take : ∀ {ds : List D} {vs : List V} (n : Nat), Reps K α H ds vs → Reps K α H (ds.take n) (vs.take n)
  | [], vs, n, h => by simp only [Reps] at h; subst h; simp [Reps]
  | d :: ds, vs, n, h => by
    simp only [Reps] at h
    obtain ⟨v, r, rfl, q, t⟩ := h
    cases n with
    | zero => simp [Reps]
    | succ n => simp only [List.take_succ_cons, Reps]; exact ⟨v, r.take n, rfl, q, Reps.take n t⟩
theorem Reps.drop : ∀ {ds : List D} {vs : List V} (n : Nat), Reps K α H ds vs → Reps K α H (ds.drop n) (vs.drop n)
  | [], vs, n, h => by simp only [Reps] at h; subst h; simp [Reps]
  | d :: ds, vs, n, h => by
    cases n with
    | zero => simpa using h
    | succ n =>
      simp only [Reps] at h
      obtain ⟨v, r, rfl, q, t⟩ := h
      simpa using Reps.drop n t
theorem Reps.one {d : D} {v : V} (h : Rep K α H d v) : Reps K α H [d] [v] := by
  simp only [Reps]; exact ⟨v, [], rfl, h, rfl⟩
end

section
variable (W : Wd)
def fields (W : Wd) (fs : List (String × D)) (vs : List V) : List (Str × V) := (fs.map fun p => W.fld p.1).zip vs
def ObjRep (α : List Addr) (H : Hp) (a : Addr) : LO → Prop
  | .lst ds => ∃ vs, H a = some (.lst vs) ∧ Reps W.K α H ds vs
  | .dic _ => False
  | .ins c fs => ∃ dx vs, H a = some (.ins (W.cl c) dx (fields W fs vs)) ∧ Reps W.K α H (fs.map (·.2)) vs
structure HCorr (α : List Addr) (h : IR.Heap) (H : Hp) : Prop where
  len : α.length = h.length
  nd : α.Nodup
  ob : ∀ (i : Nat) (o : LO) (a : Addr), h[i]? = some o → α[i]? = some a → ObjRep W α H a o
structure Corr (α : List Addr) (env : IR.Env) (h : IR.Heap) (σ : L2.St) (H : Hp) : Prop where
  hc : HCorr W α h H
  len : env.length = σ.length
  en : ∀ (i : Nat) (d : D), env[i]? = some (some d) → ∃ v, σ[i]? = some (some v) ∧ Rep W.K α H d v
end
section
variable {W : Wd} {α α' : List Addr} {h h' : IR.Heap} {H H' : Hp} {env env' : IR.Env} {σ σ' : L2.St}
theorem Corr.later (c : Corr W α env h σ H) (le : Le W.K α H α' H') (hc : HCorr W α' h' H') : Corr W α' env h' σ H' :=
  ⟨hc, c.len, fun i d e => let ⟨v, q, r⟩ := c.en i d e; ⟨v, q, r.mono le⟩⟩
theorem HCorr.at_ (c : HCorr W α h H) {k : Nat} {o : LO} (e : h[k]? = some o) : ∃ a, α[k]? = some a ∧ ObjRep W α H a o := by
  have hk : k < α.length := by rw [c.len]; exact (List.getElem?_eq_some_iff.mp e).1
  exact ⟨α[k], List.getElem?_eq_getElem hk, c.ob k o _ e (List.getElem?_eq_getElem hk)⟩
theorem map_pures {fs : List (String × D)} (h : (fs.all fun p => p.2.pure) = true) : D.pures (fs.map (·.2)) = true := by
  induction fs with
  | nil => rfl
  | cons p r ih =>
    simp only [List.all_cons, Bool.and_eq_true] at h
    simp only [List.map_cons, D.pures, Bool.and_eq_true]
    exact ⟨h.1, ih h.2⟩
theorem ObjRep.any (γ : List Addr) {o : LO} {a : Addr} (p : o.pure = true) (r : ObjRep W α H a o) : ObjRep W γ H a o := by
  cases o with
  | lst ds => obtain ⟨vs, e, q⟩ := r; exact ⟨vs, e, q.any γ (by simpa only [LO.pure] using p)⟩
  | dic kvs => exact r.elim
  | ins c fs => obtain ⟨dx, vs, e, q⟩ := r; exact ⟨dx, vs, e, q.any γ (map_pures (by simpa only [LO.pure] using p))⟩
def bndO (n : Nat) : LO → Prop
  | .lst ds => bnds n ds
  | .dic _ => True
  | .ins _ fs => bnds n (fs.map (·.2))
theorem ObjRep.bnd {o : LO} {a : Addr} (r : ObjRep W α H a o) : bndO α.length o := by
  cases o with
  | lst ds => obtain ⟨vs, e, q⟩ := r; exact q.bnd
  | dic kvs => exact r.elim
  | ins c fs => obtain ⟨dx, vs, e, q⟩ := r; exact q.bnd
theorem ObjRep.cut {β g : List Addr} (e0 : β = α ++ g) {o : LO} {a : Addr} (r : ObjRep W β H a o) (b : bndO α.length o) : ObjRep W α H a o := by
  cases o with
  | lst ds => obtain ⟨vs, e, q⟩ := r; exact ⟨vs, e, q.cut e0 b⟩
  | dic kvs => exact r.elim
  | ins c fs => obtain ⟨dx, vs, e, q⟩ := r; exact ⟨dx, vs, e, q.cut e0 b⟩
theorem agree_get : ∀ {h h' : IR.Heap} {i : Nat} {o : LO}, agree h h' = true → i < h.length → h'[i]? = some o → o.pure = true ∨ h[i]? = some o
  | [], h', i, o, _, hi, _ => by simp at hi
  | a :: as, [], i, o, e, _, _ => by simp [agree] at e
  | a :: as, b :: bs, i, o, e, hi, q => by
    simp only [agree, Bool.and_eq_true, Bool.or_eq_true] at e
    cases i with
    | zero =>
      simp at q; subst q
      rcases e.1 with p | p
      · exact .inl p
      · have := of_decide_eq_true p; subst this; exact .inr (by simp)
    | succ i =>
      simp at q
      have := agree_get (i := i) e.2 (by simpa using hi) q
      simpa using this
theorem agree_le : ∀ {h h' : IR.Heap}, agree h h' = true → h.length ≤ h'.length
  | [], h', _ => Nat.zero_le _
  | a :: as, [], e => by simp [agree] at e
  | a :: as, b :: bs, e => by
    simp only [agree, Bool.and_eq_true] at e
    simpa using agree_le e.2
/-- what stood before, read behind -/
theorem HCorr.cut (c : HCorr W α h H) (le : Le W.K α H α' H') (c' : HCorr W α' h' H') (ag : agree h h' = true) : HCorr W α (h'.take h.length) H' := by
  obtain ⟨g, e0⟩ := le.pre
  have hl := agree_le ag
  refine ⟨by rw [List.length_take, c.len]; omega, by have := c'.nd; rw [e0] at this; exact (List.nodup_append.mp this).1, fun i o a e1 e2 => ?_⟩
  have hi : i < h.length := by rw [← c.len]; exact (List.getElem?_eq_some_iff.mp e2).1
  rw [List.getElem?_take_of_lt hi] at e1
  have r := c'.ob i o a e1 (by rw [e0, List.getElem?_append_left (List.getElem?_eq_some_iff.mp e2).1]; exact e2)
  rcases agree_get ag hi e1 with p | p
  · exact r.any α p
  · exact r.cut e0 (c.ob i o a p e2).bnd
theorem gc_ok {d d2 : D} {v : V} {h2 : IR.Heap} (c : HCorr W α h H) (le : Le W.K α H α' H') (c' : HCorr W α' h' H') (r : Rep W.K α' H' d v) (e : gc h (.ok d h') = .ok d2 h2) :
    ∃ α2, Le W.K α H α2 H' ∧ HCorr W α2 h2 H' ∧ Rep W.K α2 H' d2 v := by
  simp only [gc] at e
  split at e
  · rename_i ag
    have cc := c.cut le c' ag
    have le0 : Le W.K α H α H' := ⟨⟨[], by simp⟩, le.tup, le.frz⟩
    split at e
    · rename_i hp
      cases e
      exact ⟨α, le0, cc, r.any α hp⟩
    · split at e
      · rename_i rr _
        split at e
        · rename_i hge
          split at e
          · rename_i o ho
            split at e
            · rename_i op
              cases e
              obtain ⟨a, ea, ro⟩ := c'.at_ ho
              obtain ⟨g, e0⟩ := le.pre
              refine ⟨α ++ [a], ⟨⟨[a], rfl⟩, le.tup, le.frz⟩, ⟨?_, ?_, fun i o1 b e1 e2 => ?_⟩, ?_⟩
              · rw [List.length_append, List.length_append, cc.len]; rfl
              · have nd := c'.nd
                rw [List.nodup_append]
                refine ⟨cc.nd, by simp, fun x hx y hy => ?_⟩
                simp at hy; subst hy
                rintro rfl
                obtain ⟨j, hj, ej⟩ := List.getElem_of_mem hx
                have e3 : α'[j]? = some x := by rw [e0, List.getElem?_append_left hj, List.getElem?_eq_getElem hj, ej]
                obtain ⟨k1, k2⟩ := List.getElem?_eq_some_iff.mp e3
                obtain ⟨k3, k4⟩ := List.getElem?_eq_some_iff.mp ea
                have := (List.getElem_inj nd).mp (k2.trans k4.symm)
                have : j < h.length := by rw [← c.len]; exact hj
                omega
              · by_cases hi : i < α.length
                · rw [List.getElem?_append_left hi] at e2
                  have hi2 : i < (h'.take h.length).length := by rw [← cc.len]; exact hi
                  rw [List.getElem?_append_left hi2] at e1
                  have q := cc.ob i o1 b e1 e2
                  have : Le W.K α H' (α ++ [a]) H' := ⟨⟨[a], rfl⟩, fun _ _ z => z, fun _ _ z => z⟩
                  cases o1 with
                  | lst ds => obtain ⟨vs, x1, x2⟩ := q; exact ⟨vs, x1, x2.mono this⟩
                  | dic kvs => exact q.elim
                  | ins cc fs => obtain ⟨dx, vs, x1, x2⟩ := q; exact ⟨dx, vs, x1, x2.mono this⟩
                · have hi' : i = α.length := by
                    have := (List.getElem?_eq_some_iff.mp e2).1
                    simp at this; omega
                  subst hi'
                  rw [List.getElem?_append_right (Nat.le_refl _)] at e2
                  simp at e2; subst e2
                  rw [List.getElem?_append_right (by rw [cc.len]; exact Nat.le_refl _)] at e1
                  have z : α.length - (List.take h.length h').length = 0 := by rw [cc.len]; omega
                  rw [z] at e1
                  simp at e1; subst e1
                  exact ro.any _ op
              · simp only [Rep] at r ⊢
                obtain ⟨b, e1, e2⟩ := r
                rw [ea] at e1; cases e1
                exact ⟨a, by rw [← c.len]; simp, e2⟩
            · cases e; exact ⟨α', le, c', r⟩
          · cases e; exact ⟨α', le, c', r⟩
        · rename_i hlt
          cases e
          obtain ⟨g, e0⟩ := le.pre
          exact ⟨α, le0, cc, r.cut e0 (by simp only [IR.bnd]; rw [c.len]; omega)⟩
      · cases e; exact ⟨α', le, c', r⟩
  · cases e; exact ⟨α', le, c', r⟩
theorem gcB_ok {b b2 : Bool} {h2 : IR.Heap} (c : HCorr W α h H) (le : Le W.K α H α' H') (c' : HCorr W α' h' H') (e : gcB h (.ok b h') = .ok b2 h2) :
    b2 = b ∧ ∃ α2, Le W.K α H α2 H' ∧ HCorr W α2 h2 H' := by
  simp only [gcB] at e
  split at e
  · rename_i ag
    cases e
    exact ⟨rfl, α, ⟨⟨[], by simp⟩, le.tup, le.frz⟩, c.cut le c' ag⟩
  · cases e; exact ⟨rfl, α', le, c'⟩
end
end IR

/-! ### readings -/
namespace L2
open PySem
theorem PE.imp {X : Cx} {e : Expr} {t t' : TE} (p : PE X e t) (i : ∀ σ H Q, t' σ H Q → t σ H Q) : PE X e t' := ⟨fun pins s σ H Q I h => p.run pins s σ H Q I (i σ H Q h)⟩
theorem PT.imp {X : Cx} {e : Expr} {t t' : TT} (p : PT X e t) (i : ∀ σ H Q, t' σ H Q → t σ H Q) : PT X e t' := ⟨fun pins s σ H Q I h => p.run pins s σ H Q I (i σ H Q h)⟩
theorem PW.imp {X : Cx} {e : Expr} {t t' : TT} (p : PW X e t) (i : ∀ σ H Q, t' σ H Q → t σ H Q) : PW X e t' := ⟨fun whole pins s σ H Q I h => p.run whole pins s σ H Q I (i σ H Q h)⟩
theorem PA.imp {X : Cx} {es : List Expr} {t t' : TA} (p : PA X es t) (i : ∀ σ H Q, t' σ H Q → t σ H Q) : PA X es t' := ⟨fun pos pins s σ H Q I h => p.run pos pins s σ H Q I (i σ H Q h)⟩
theorem PS.imp {X : Cx} {st : Stmt} {t t' : TS} (p : PS X st t) (i : ∀ D σ H, t' D σ H → t D σ H) : PS X st t' := ⟨fun pins s σ H D I h => p.run pins s σ H D I (i D σ H h)⟩
theorem PSs.imp {X : Cx} {sts : List Stmt} {t t' : TS} (p : PSs X sts t) (i : ∀ D σ H, t' D σ H → t D σ H) : PSs X sts t' := ⟨fun pins s σ H D I h => p.run pins s σ H D I (i D σ H h)⟩
end L2
namespace IR
open PySem PySem.Spec PyProof.Rows L2
section
variable (W : Wd)
/-- what is wished of an error (class c, value d) from (α, H) on -/
def wishX (E : XK) (α : List Addr) (H : Hp) (c : Nat) (d : D) (h' : IR.Heap) : Prop :=
  ∀ α' H' dx v, Le W.K α H α' H' → HCorr W α' h' H' → Rep W.K α' H' d v → H' dx = some (.xd [(W.fld "value", v)]) → E (.ref (W.cl c)) (some dx) H'
/-- an outcome is as wished -/
def Run {β γ : Type} (R : List Addr → Hp → β → γ → Prop) (E : XK) (α : List Addr) (H : Hp) (Q : γ → Hp → Prop) : Res β → Prop
  | .ok b h' => ∀ α' H' c, Le W.K α H α' H' → HCorr W α' h' H' → R α' H' b c → Q c H'
  | .exc c d h' => wishX W E α H c d h'
  | .bad => False
def semG {β γ : Type} (R : List Addr → Hp → β → γ → Prop) (Wx : WX) (f : IR.Env → IR.Heap → Res β) (σ : L2.St) (H : Hp) (Q : γ → Hp → Prop) : Prop :=
  ∃ α env h, Corr W α env h σ H ∧ Run W R (WE Wx σ) α H Q (f env h)
abbrev RV : List Addr → Hp → D → V → Prop := fun α H d v => Rep W.K α H d v
abbrev RL : List Addr → Hp → List D → List V → Prop := fun α H d v => Reps W.K α H d v
abbrev RI {β : Type} : List Addr → Hp → β → β → Prop := fun _ _ b c => c = b
abbrev semE (Wx : WX) (f : SE) : TE := semG W (RV W) Wx f
abbrev semT (Wx : WX) (f : ST) : TT := semG W RI Wx f
abbrev semA (Wx : WX) (f : SA) : TA := semG W (RL W) Wx f
abbrev semO (Wx : WX) (f : SO) : TO := semG W RI Wx f
end
section
variable {W : Wd} {Wx : WX} {α α' : List Addr} {σ : L2.St} {H H' : Hp} {env : IR.Env} {h h' : IR.Heap}
theorem wishX.later {E : XK} {c : Nat} {d : D} (w : wishX W E α H c d h) (le : Le W.K α H α' H') : wishX W E α' H' c d h :=
  fun β H2 dx v le2 hc r e => w β H2 dx v (le.trans le2) hc r e
section
variable {E : XK} {β γ δ ε : Type} {R : List Addr → Hp → β → γ → Prop} {R' : List Addr → Hp → δ → ε → Prop} {Q : ε → Hp → Prop} {P : γ → Hp → Prop}
theorem Run.later {Q : γ → Hp → Prop} {r : Res β} (k : Run W R E α H Q r) (le : Le W.K α H α' H') : Run W R E α' H' Q r := by
  cases r with
  | ok b h' => exact fun β H2 c le2 hc r => k β H2 c (le.trans le2) hc r
  | exc c d h' => exact wishX.later k le
  | bad => exact k
/-- f, then g: from what is wished of both to what is wished of f -/
theorem bindR {f : IR.Env → IR.Heap → Res β} {g : β → IR.Heap → Res δ} (c : Corr W α env h σ H) (q : Run W R' (WE Wx σ) α H Q ((f env h).bind g))
    (k : ∀ α' b h1 v H1, Le W.K α H α' H1 → Corr W α' env h1 σ H1 → R α' H1 b v → Run W R' (WE Wx σ) α' H1 Q (g b h1) → P v H1) : semG W R Wx f σ H P := by
  refine ⟨α, env, h, c, ?_⟩
  cases e : f env h with
  | bad => rw [e] at q; exact q
  | exc c d h' => rw [e] at q; exact q
  | ok b h1 =>
    rw [e] at q
    exact fun α' H1 v le hc r => k α' b h1 v H1 le (c.later le hc) r (Run.later q le)
theorem bindG {f : IR.Env → IR.Heap → Res β} {g : IR.Env → β → IR.Heap → Res δ} (q : semG W R' Wx (fun env h => (f env h).bind (g env)) σ H Q)
    (k : ∀ α env b h1 v H1, Corr W α env h1 σ H1 → R α H1 b v → Run W R' (WE Wx σ) α H1 Q (g env b h1) → P v H1) : semG W R Wx f σ H P := by
  obtain ⟨α, env, h, c, q⟩ := q
  exact bindR (g := g env) c q fun α' b h1 v H1 _ c r q => k α' env b h1 v H1 c r q
/-- at an end -/
theorem Run.done {b : β} {v : γ} {Q : γ → Hp → Prop} (k : Run W R E α H Q (.ok b h)) (hc : HCorr W α h H) (r : R α H b v) : Q v H := k α H v Le.refl hc r
theorem Run.lift {o : Option β} {g : β → IR.Heap → Res δ} (q : Run W R' E α H Q ((liftO o h).bind g)) : ∃ b, o = some b ∧ Run W R' E α H Q (g b h) := by
  cases o with
  | none => exact q.elim
  | some b => exact ⟨b, rfl, q⟩
theorem Run.lift1 {o : Option β} {Q : γ → Hp → Prop} (q : Run W R E α H Q (liftO o h)) : ∃ b, o = some b ∧ Run W R E α H Q (.ok b h) := by
  cases o with
  | none => exact q.elim
  | some b => exact ⟨b, rfl, q⟩
theorem Run.ite {p : Prop} [Decidable p] {r : Res β} {Q : γ → Hp → Prop} (q : Run W R E α H Q (if p then r else .bad)) : p ∧ Run W R E α H Q r := by
  by_cases hp : p
  · rw [if_pos hp] at q; exact ⟨hp, q⟩
  · rw [if_neg hp] at q; exact q.elim
/-- behind gc -/
theorem Run.gc {Q : V → Hp → Prop} {r : Res D} (c : HCorr W α h H) (q : Run W (RV W) E α H Q (gc h r)) : Run W (RV W) E α H Q r := by
  cases r with
  | bad => exact q
  | exc c d h' => exact q
  | ok d h' =>
    intro α' H' v le hc rv
    cases e : IR.gc h (.ok d h') with
    | bad => rw [e] at q; exact q.elim
    | exc c d h' => simp only [IR.gc] at e; repeat (first | cases e | split at e)
    | ok d2 h2 =>
      rw [e] at q
      obtain ⟨α2, le2, hc2, rv2⟩ := gc_ok c le hc rv e
      exact q α2 H' v le2 hc2 rv2
theorem Run.gcB {Q : Bool → Hp → Prop} {r : Res Bool} (c : HCorr W α h H) (q : Run W RI E α H Q (gcB h r)) : Run W RI E α H Q r := by
  cases r with
  | bad => exact q
  | exc c d h' => exact q
  | ok d h' =>
    intro α' H' v le hc rv
    cases e : IR.gcB h (.ok d h') with
    | bad => rw [e] at q; exact q.elim
    | exc c d h' => simp only [IR.gcB] at e; split at e <;> cases e
    | ok d2 h2 =>
      rw [e] at q
      obtain ⟨e2, α2, le2, hc2⟩ := gcB_ok c le hc e
      exact q α2 H' v le2 hc2 (rv.trans e2.symm)
end

/-! an operation by values -/
def O2S (W : Wd) (op : O2) (r : R2) : Prop := ∀ E α H h x y v w Q, HCorr W α h H → Rep W.K α H x v → Rep W.K α H y w → Run W (RV W) E α H Q (op x y h) → r v w H Q
def O1S (W : Wd) (op : O1) (r : V → Hp → VK → Prop) : Prop := ∀ E α H h x v Q, HCorr W α h H → Rep W.K α H x v → Run W (RV W) E α H Q (op x h) → r v H Q
def OLS (W : Wd) (op : OL) (r : List V → Hp → VK → Prop) : Prop := ∀ E α H h xs vs Q, HCorr W α h H → Reps W.K α H xs vs → Run W (RV W) E α H Q (op xs h) → r vs H Q

variable {X : Cx} {pos : Pos} {a b c : Expr} {fa fb fc : SE}
theorem sem_2 {op : O2} {r : R2} (hs : O2S W op r) {Q : VK} (q : semE W Wx (e_2 op fa fb) σ H Q) : tOp r (semE W Wx fa) (semE W Wx fb) σ H Q :=
  bindG (g := fun env x h1 => (fb env h1).bind fun y h2 => op x y h2) q fun α env x h1 v H1 c rx k => bindR (g := fun y h2 => op x y h2) c k fun α2 y h2 w H2 le c2 ry k2 => hs (WE Wx σ) α2 H2 h2 x y v w Q c2.hc (rx.mono le) ry k2
theorem sem_1 {op : O1} {r : V → Hp → VK → Prop} (hs : O1S W op r) {Q : VK} (q : semE W Wx (e_1 op fa) σ H Q) : tUn r (semE W Wx fa) σ H Q :=
  bindG (g := fun env x h1 => op x h1) q fun α env x h1 v H1 c rx k => hs (WE Wx σ) α H1 h1 x v Q c.hc rx k
theorem q_2 {op' : Operator} {op : O2} {r : R2} (ho : OpR X (binaryOp op') r) (hs : O2S W op r) (ha : PE X a (semE W Wx fa)) (hb : PE X b (semE W Wx fb)) : PE X (.BinOp a op' b pos) (semE W Wx (e_2 op fa fb)) :=
  (pe_op ho ha hb).imp fun _ _ _ q => sem_2 hs q
theorem q_1 {op' : UnaryOp} {op : O1} {r : V → Hp → VK → Prop} (ho : UnR X (unaryOp op') r) (hs : O1S W op r) (ha : PE X a (semE W Wx fa)) : PE X (.UnaryOp op' a pos) (semE W Wx (e_1 op fa)) :=
  (pe_un ho ha).imp fun _ _ _ q => sem_1 hs q
theorem q_cmp {op' : CmpOp} {op : O2} {r : R2} (ho : OpR X (compareOp op') r) (hs : O2S W op r) (ha : PE X a (semE W Wx fa)) (hb : PE X b (semE W Wx fb)) (hm : behindInMarks op' b = false) : PE X (.Compare a [op'] [b] pos) (semE W Wx (e_2 op fa fb)) :=
  (pe_cmpR ho ha hb hm).imp fun _ _ _ q => sem_2 hs q
theorem rep_bl {K : PySem.W.Frag} {x : D} {v : V} {k : Bool} (e : asB x = some k) (r : Rep K α H x v) : v = .bl k := by
  cases x with
  | bl b => cases e; simpa only [Rep] using r
  | _ => cases e
/-- a value that is a bool, as a test -/
theorem sem_tb {t : TE} {f : SE} (ht : ∀ σ H Q, semE W Wx f σ H Q → t σ H Q) {Q : Bool → Hp → Prop} (q : semT W Wx (t_b f) σ H Q) : tTest t σ H Q :=
  ht _ _ _ (bindG (g := fun _ x h1 => liftO (asB x) h1) q fun α env x h1 v H1 c rx k => by
    obtain ⟨b, e, k⟩ := Run.lift1 k
    exact ⟨b, rep_bl e rx, Run.done k c.hc rfl⟩)
theorem qt_cmp {op' : CmpOp} {op : O2} {r : R2} (ho : OpR X (compareOp op') r) (hs : O2S W op r) (ha : PE X a (semE W Wx fa)) (hb : PE X b (semE W Wx fb)) (hm : behindInMarks op' b = false) : PT X (.Compare a [op'] [b] pos) (semT W Wx (t_b (e_2 op fa fb))) :=
  (pt_cmpR ho ha hb hm).imp fun _ _ _ q => sem_tb (fun _ _ _ q => sem_2 hs q) q
theorem qt_val (ha : PE X a (semE W Wx fa)) (he : ∀ whole, isTrue a X.env whole = (do let v ← whole; standAt a.pos; holding [v] (truthy v)) := by intro _; rfl) : PT X a (semT W Wx (t_b fa)) :=
  (pt_val ha he).imp fun _ _ _ q => sem_tb (fun _ _ _ q => q) q

/-! names, constants -/
theorem sem_var {i : Nat} {Q : VK} (q : semE W Wx (e_var i) σ H Q) : tVar i σ H Q := by
  obtain ⟨α, env, h, c, k⟩ := q
  simp only [e_var] at k
  split at k
  · rename_i d e
    obtain ⟨v, ev, rv⟩ := c.en i _ e
    exact ⟨v, ev, Run.done k c.hc rv⟩
  · exact k.elim
theorem q_var (i : Nat) {x : Str} (hN : X.N[i]? = some x := by rfl) (hv : Vis X.env.scope x := by first | exact Or.inl rfl | exact Or.inr (Or.inl rfl) | exact Or.inr (Or.inr rfl)) (hd : (x == ("__debug__" : Str)) = false := by decide)
    (hcd : (x == ("__classdict__" : Str)) = false := by decide) : PE X (.Name x pos) (semE W Wx (e_var i)) := (pe_var hN hv hd hcd).imp fun _ _ _ q => sem_var q
theorem sem_c {d : D} {v : V} {Q : VK} (hr : ∀ α H, Rep W.K α H d v) (q : semE W Wx (e_c d) σ H Q) : tC v σ H Q := by
  obtain ⟨α, env, h, c, k⟩ := q
  exact Run.done (v := v) k c.hc (hr α H)
theorem q_int {i : Int} {j} : PE X (.Constant (.int i) j pos) (semE W Wx (e_c (.int i))) := pe_int.imp fun _ _ _ q => sem_c (fun _ _ => by simp only [Rep]) q
theorem q_bl {b : Bool} {j} : PE X (.Constant (.bool b) j pos) (semE W Wx (e_c (.bl b))) := pe_bl.imp fun _ _ _ q => sem_c (fun _ _ => by simp only [Rep]) q
theorem q_non {j} : PE X (.Constant .none j pos) (semE W Wx (e_c .non)) := pe_non.imp fun _ _ _ q => sem_c (fun _ _ => by simp only [Rep]) q
theorem q_str {x : Str} (s : Txt) {j} (e : x = toStr s := by rfl) (ho : okT s := by decide) : PE X (.Constant (.str x) j pos) (semE W Wx (e_c (.str s))) := pe_str.imp fun _ _ _ q => sem_c (fun _ _ => by simp only [Rep]; rw [e]; exact ⟨rfl, ho⟩) q
/-- a constant of the top: an int, a text, a tuple that is written -/
theorem q_glob {x : Str} {v : V} {u : Value} {d : D} (hg : Gl X x) (hm : X.mg x = some u) (r : RelV v u) (hr : ∀ α H, Rep W.K α H d v) (hd : (x == ("__debug__" : Str)) = false := by decide) : PE X (.Name x pos) (semE W Wx (e_c d)) :=
  (pe_glob hg hm r hd).imp fun _ _ _ q => sem_c hr q

/-! tests -/
theorem sem_tnot {t : ST} {Q : Bool → Hp → Prop} (q : semT W Wx (t_not t) σ H Q) : tNot (semT W Wx t) σ H Q :=
  bindG (g := fun _ b h1 => Res.ok (!b) h1) q fun α env x h1 v H1 c rx k => by cases rx; exact Run.done k c.hc rfl
theorem sem_tand {t u : ST} {Q : Bool → Hp → Prop} (q : semT W Wx (t_and t u) σ H Q) : tAnd (semT W Wx t) (semT W Wx u) σ H Q :=
  bindG (g := fun env b h1 => if b then u env h1 else .ok false h1) q fun α env x h1 v H1 c rx k => by
    cases rx
    cases x with
    | false => exact Run.done k c.hc rfl
    | true => exact iteT ⟨α, env, h1, c, k⟩
theorem sem_tor {t u : ST} {Q : Bool → Hp → Prop} (q : semT W Wx (t_or t u) σ H Q) : tOr (semT W Wx t) (semT W Wx u) σ H Q :=
  bindG (g := fun env b h1 => if b then .ok true h1 else u env h1) q fun α env x h1 v H1 c rx k => by
    cases rx
    cases x with
    | true => exact Run.done k c.hc rfl
    | false => exact iteF ⟨α, env, h1, c, k⟩
variable {tA tB : ST} {rest : List Expr}
theorem qt_not (ha : PT X a (semT W Wx tA)) : PT X (.UnaryOp .Not a pos) (semT W Wx (t_not tA)) := (pt_not ha).imp fun _ _ _ q => sem_tnot q
theorem qw_and1 (ha : PT X a (semT W Wx tA)) : PW X (.BoolOp .And [a] pos) (semT W Wx tA) := pw_and1 ha
theorem qw_or1 (ha : PT X a (semT W Wx tA)) : PW X (.BoolOp .Or [a] pos) (semT W Wx tA) := pw_or1 ha
theorem qw_and (ha : PT X a (semT W Wx tA)) (hb : PW X (.BoolOp .And (b :: rest) pos) (semT W Wx tB)) : PW X (.BoolOp .And (a :: b :: rest) pos) (semT W Wx (t_and tA tB)) := (pw_and ha hb).imp fun _ _ _ q => sem_tand q
theorem qw_or (ha : PT X a (semT W Wx tA)) (hb : PW X (.BoolOp .Or (b :: rest) pos) (semT W Wx tB)) : PW X (.BoolOp .Or (a :: b :: rest) pos) (semT W Wx (t_or tA tB)) := (pw_or ha hb).imp fun _ _ _ q => sem_tor q
theorem sem_eand {Q : VK} (q : semE W Wx (e_and fa fb) σ H Q) : tAndV (semE W Wx fa) (semE W Wx fb) σ H Q :=
  bindG (g := fun env x h1 => (liftO (asB x) h1).bind fun k h1 => if k then fb env h1 else .ok (.bl false) h1) q fun α env x h1 v H1 c rx k => by
    obtain ⟨b, e, k⟩ := Run.lift k
    refine ⟨b, rep_bl e rx, ?_⟩
    cases b with
    | false => exact Run.done (v := V.bl false) k c.hc (by simp only [RV, Rep])
    | true => exact iteT ⟨α, env, h1, c, k⟩
theorem sem_eor {Q : VK} (q : semE W Wx (e_or fa fb) σ H Q) : tOrV (semE W Wx fa) (semE W Wx fb) σ H Q :=
  bindG (g := fun env x h1 => (liftO (asB x) h1).bind fun k h1 => if k then .ok (.bl true) h1 else fb env h1) q fun α env x h1 v H1 c rx k => by
    obtain ⟨b, e, k⟩ := Run.lift k
    refine ⟨b, rep_bl e rx, ?_⟩
    cases b with
    | true => exact Run.done (v := V.bl true) k c.hc (by simp only [RV, Rep])
    | false => exact iteF ⟨α, env, h1, c, k⟩
theorem sem_enot {Q : VK} (q : semE W Wx (e_not fa) σ H Q) : tNotV (semE W Wx fa) σ H Q :=
  bindG (g := fun env x h1 => (liftO (asB x) h1).bind fun k h1 => Res.ok (D.bl (!k)) h1) q fun α env x h1 v H1 c rx k => by
    obtain ⟨b, e, k⟩ := Run.lift k
    exact ⟨b, rep_bl e rx, Run.done (v := V.bl (!b)) k c.hc (by simp only [RV, Rep])⟩
theorem q_and1 (ha : PE X a (semE W Wx fa)) {op} : PE X (.BoolOp op [a] pos) (semE W Wx fa) := pe_one ha
theorem q_and (ha : PE X a (semE W Wx fa)) (hb : PE X (.BoolOp .And (b :: rest) pos) (semE W Wx fb)) : PE X (.BoolOp .And (a :: b :: rest) pos) (semE W Wx (e_and fa fb)) := (pe_and ha hb).imp fun _ _ _ q => sem_eand q
theorem q_or (ha : PE X a (semE W Wx fa)) (hb : PE X (.BoolOp .Or (b :: rest) pos) (semE W Wx fb)) : PE X (.BoolOp .Or (a :: b :: rest) pos) (semE W Wx (e_or fa fb)) := (pe_or ha hb).imp fun _ _ _ q => sem_eor q
theorem q_not (ha : PE X a (semE W Wx fa)) : PE X (.UnaryOp .Not a pos) (semE W Wx (e_not fa)) := (pe_not ha).imp fun _ _ _ q => sem_enot q
theorem sem_if {t : ST} {Q : VK} (q : semE W Wx (e_if t fa fb) σ H Q) : tIf (semT W Wx t) (semE W Wx fa) (semE W Wx fb) σ H Q :=
  bindG (g := fun env k h1 => if k then fa env h1 else fb env h1) q fun α env x h1 v H1 c rx k => by
    cases rx
    cases x with
    | true => exact iteT ⟨α, env, h1, c, k⟩
    | false => exact iteF ⟨α, env, h1, c, k⟩
theorem q_if {t : ST} (hc : PT X c (semT W Wx t)) (ha : PE X a (semE W Wx fa)) (hb : PE X b (semE W Wx fb)) : PE X (.IfExp c a b pos) (semE W Wx (e_if t fa fb)) := (pe_ifExp hc ha hb).imp fun _ _ _ q => sem_if q
/-! chains -/
theorem sem_chain {op op' : O2} {r r' : R2} (hs : O2S W op r) (hs' : O2S W op' r') {Q : VK} (q : semE W Wx (e_chain op op' fa fb fc) σ H Q) : tChain r r' (semE W Wx fa) (semE W Wx fb) (semE W Wx fc) σ H Q :=
  bindG (g := fun env x h1 => (fb env h1).bind fun y h2 => (op x y h2).bind fun z h3 => (liftO (asB z) h3).bind fun k h3 => if k then (fc env h3).bind fun w h4 => op' y w h4 else .ok (.bl false) h3) q fun α env x h1 v H1 c rx k =>
    bindR (g := fun y h2 => (op x y h2).bind fun z h3 => (liftO (asB z) h3).bind fun k h3 => if k then (fc env h3).bind fun w h4 => op' y w h4 else .ok (.bl false) h3) c k fun α2 y h2 w H2 le c2 ry k2 => by
      refine hs (WE Wx σ) α2 H2 h2 x y v w _ c2.hc (rx.mono le) ry ?_
      cases e : op x y h2 with
      | bad => rw [e] at k2; exact k2
      | exc c d h' => rw [e] at k2; exact k2
      | ok z h3 =>
        rw [e] at k2
        intro α3 H3 u le3 hc3 ru
        have k2 := Run.later k2 le3
        simp only [Res.bind_ok] at k2
        obtain ⟨b, eb, k2⟩ := Run.lift k2
        refine ⟨b, rep_bl eb ru, ?_⟩
        cases b with
        | false => exact Run.done (v := V.bl false) k2 hc3 (by simp only [RV, Rep])
        | true =>
          refine iteT ?_
          exact bindR (g := fun w h4 => op' y w h4) (c2.later le3 hc3) k2 fun α4 y4 h4 w4 H4 le4 c4 ry4 k4 => hs' (WE Wx σ) α4 H4 h4 y y4 w w4 Q c4.hc ((ry.mono le3).mono le4) ry4 k4
theorem q_chain {o1 o2 : CmpOp} {op op' : O2} {r r' : R2} (ho : OpR X (compareOp o1) r) (ho' : OpR X (compareOp o2) r') (hs : O2S W op r) (hs' : O2S W op' r') (ha : PE X a (semE W Wx fa)) (hb : PE X b (semE W Wx fb)) (hc : PE X c (semE W Wx fc)) (hm : lastMarks [o1, o2] [b, c] = false := by rfl) : PE X (.Compare a [o1, o2] [b, c] pos) (semE W Wx (e_chain op op' fa fb fc)) :=
  (pe_chain ho ho' ha hb hc hm).imp fun _ _ _ q => sem_chain hs hs' q
theorem qt_chain {o1 o2 : CmpOp} {op op' : O2} {r r' : R2} (ho : OpR X (compareOp o1) r) (ho' : OpR X (compareOp o2) r') (hs : O2S W op r) (hs' : O2S W op' r') (ha : PE X a (semE W Wx fa)) (hb : PE X b (semE W Wx fb)) (hc : PE X c (semE W Wx fc)) (hm : lastMarks [o1, o2] [b, c] = false := by rfl) : PT X (.Compare a [o1, o2] [b, c] pos) (semT W Wx (t_b (e_chain op op' fa fb fc))) :=
  (pt_chain ho ho' ha hb hc hm).imp fun _ _ _ q => sem_tb (fun _ _ _ q => sem_chain hs hs' q) q

/-! arguments, displays, calls of built-ins -/
variable {es : List Expr} {ga gb : SA}
theorem qa_nil : PA X [] (semA W Wx a_nil) := pa_nil.imp fun σ H Q q => by
  obtain ⟨α, env, h, c, k⟩ := q
  exact Run.done (v := ([] : List V)) k c.hc (by simp only [RL, Reps])
theorem qa_cons (ha : PE X a (semE W Wx fa)) (hr : PA X es (semA W Wx ga)) (hs : starEach (a :: es) X.env = (false, eval a X.env) :: starEach es X.env := by rfl) : PA X (a :: es) (semA W Wx (a_cons fa ga)) :=
  (pa_cons ha hr hs).imp fun σ H Q q => bindG (g := fun env x h1 => (ga env h1).bind fun xs h2 => Res.ok (x :: xs) h2) q fun α env x h1 v H1 c rx k =>
    bindR (g := fun xs h2 => Res.ok (x :: xs) h2) c k fun α2 xs h2 vs H2 le c2 rxs k2 => Run.done (v := v :: vs) k2 c2.hc (by simp only [RL, Reps]; exact ⟨v, vs, rfl, rx.mono le, rxs⟩)
/-- a heap that keeps what was tracked -/
theorem ext_le {H' : Hp} (k : ∀ q u, H q = some u → H' q = some u) : Le W.K α H α H' := by
  refine ⟨⟨[], by simp⟩, fun q ws z => ?_, fun q ws z => ?_⟩
  · rcases z with z | z
    · rcases z with z | ⟨o, z⟩
      · exact .inl (.inl (k _ _ z))
      · exact .inl (.inr ⟨o, k _ _ z⟩)
    · exact .inr z
  · rcases z with ⟨o, z⟩ | z
    · exact .inl ⟨o, k _ _ z⟩
    · exact .inr z
theorem ext_ob {β : List Addr} {H' : Hp} {a : Addr} {o : LO} (k : ∀ q u, H q = some u → H' q = some u) (le : Le W.K α H β H') (r : ObjRep W α H a o) : ObjRep W β H' a o := by
  cases o with
  | lst ds => obtain ⟨ws, x1, x2⟩ := r; exact ⟨ws, k _ _ x1, x2.mono le⟩
  | dic kvs => exact r.elim
  | ins cc fs => obtain ⟨dx, ws, x1, x2⟩ := r; exact ⟨dx, ws, k _ _ x1, x2.mono le⟩
theorem ext_hc {H' : Hp} (k : ∀ q u, H q = some u → H' q = some u) (hc : HCorr W α h H) : HCorr W α h H' := ⟨hc.len, hc.nd, fun i o a e1 e2 => ext_ob k (ext_le k) (hc.ob i o a e1 e2)⟩
theorem keep_upd {p : Addr} {o : HO} (hp : H p = none) : ∀ q u, H q = some u → upd H p o q = some u := fun q u z => by rw [upd_ne (ne_of_none z hp)]; exact z
theorem new_tup {p : Addr} {ds : List D} {vs : List V} (hp : H p = none) (hc : HCorr W α h H) (r : Reps W.K α H ds vs) : Le W.K α H α (upd H p (.tup vs)) ∧ HCorr W α h (upd H p (.tup vs)) ∧ Rep W.K α (upd H p (.tup vs)) (.tup ds) (.ref p) := by
  have le : Le W.K α H α (upd H p (.tup vs)) := ext_le (keep_upd hp)
  refine ⟨le, ext_hc (keep_upd hp) hc, ?_⟩
  simp only [Rep]
  exact ⟨p, vs, rfl, .inl (.inl upd_same), r.mono le⟩
theorem ObjRep.there {a : Addr} {o : LO} (r : ObjRep W α H a o) : H a ≠ none := by
  cases o with
  | lst ds => obtain ⟨ws, x1, x2⟩ := r; rw [x1]; simp
  | dic kvs => exact r.elim
  | ins cc fs => obtain ⟨dx, ws, x1, x2⟩ := r; rw [x1]; simp
theorem HCorr.fresh {p : Addr} (hc : HCorr W α h H) (hp : H p = none) : p ∉ α := fun hm => by
  obtain ⟨i, hi, e⟩ := List.getElem_of_mem hm
  have hi' : i < h.length := by rw [← hc.len]; exact hi
  exact (hc.ob i h[i] p (List.getElem?_eq_getElem hi') (by rw [List.getElem?_eq_getElem hi, e])).there hp
/-- a new object laid -/
theorem new_obj {p : Addr} {lo : LO} {H' : Hp} (hp : H p = none) (k : ∀ q u, H q = some u → H' q = some u) (hc : HCorr W α h H) (ro : ObjRep W (α ++ [p]) H' p lo) :
    Le W.K α H (α ++ [p]) H' ∧ HCorr W (α ++ [p]) (h ++ [lo]) H' ∧ Rep W.K (α ++ [p]) H' (.ref h.length) (.ref p) := by
  have le0 : Le W.K α H α H' := ext_le k
  have le : Le W.K α H (α ++ [p]) H' := ⟨⟨[p], rfl⟩, le0.tup, le0.frz⟩
  refine ⟨le, ⟨by rw [List.length_append, List.length_append, hc.len]; rfl, ?_, fun i o a e1 e2 => ?_⟩, ?_⟩
  · rw [List.nodup_append]
    refine ⟨hc.nd, by simp, fun x hx y hy => ?_⟩
    simp at hy; subst hy
    rintro rfl
    exact hc.fresh hp hx
  · by_cases hi : i < α.length
    · rw [List.getElem?_append_left hi] at e2
      rw [List.getElem?_append_left (by rw [← hc.len]; exact hi)] at e1
      exact ext_ob k le (hc.ob i o a e1 e2)
    · have hi' : i = α.length := by
        have := (List.getElem?_eq_some_iff.mp e2).1
        simp at this; omega
      subst hi'
      rw [List.getElem?_append_right (Nat.le_refl _)] at e2
      simp at e2; subst e2
      rw [List.getElem?_append_right (by rw [hc.len]; exact Nat.le_refl _)] at e1
      have z : α.length - h.length = 0 := by rw [hc.len]; omega
      rw [z] at e1
      simp at e1; subst e1
      exact ro
  · simp only [Rep]
    exact ⟨p, by rw [← hc.len]; simp, rfl⟩
theorem new_lst {p : Addr} {ds : List D} {vs : List V} (hp : H p = none) (hc : HCorr W α h H) (r : Reps W.K α H ds vs) :
    Le W.K α H (α ++ [p]) (upd H p (.lst vs)) ∧ HCorr W (α ++ [p]) (h ++ [.lst ds]) (upd H p (.lst vs)) ∧ Rep W.K (α ++ [p]) (upd H p (.lst vs)) (.ref h.length) (.ref p) := by
  have le0 : Le W.K α H α (upd H p (.lst vs)) := ext_le (keep_upd hp)
  exact new_obj hp (keep_upd hp) hc ⟨vs, upd_same, r.mono ⟨⟨[p], rfl⟩, le0.tup, le0.frz⟩⟩
/-- an object of ours is written -/
theorem write_obj {k : Nat} {a : Addr} {lo lo' : LO} {o' : HO} (hc : HCorr W α h H) (e : h[k]? = some lo) (ea : α[k]? = some a) (ro : ∀ {H'}, Le W.K α H α H' → H' a = some o' → ObjRep W α H' a lo') :
    Le W.K α H α (upd H a o') ∧ HCorr W α (h.set k lo') (upd H a o') := by
  have r0 := hc.ob k lo a e ea
  have nt : ∀ q ws, Rd H q (.tup ws) → q ≠ a := fun q ws z => by
    rintro rfl
    cases lo with
    | lst ds => obtain ⟨vs, x1, x2⟩ := r0; rcases z with z | ⟨o, z⟩ <;> (rw [x1] at z; cases z)
    | dic kvs => exact r0
    | ins cc fs => obtain ⟨dx, vs, x1, x2⟩ := r0; rcases z with z | ⟨o, z⟩ <;> (rw [x1] at z; cases z)
  have nf : ∀ q o ws, H q = some (.frz o (.lst ws)) → q ≠ a := fun q o ws z => by
    rintro rfl
    cases lo with
    | lst ds => obtain ⟨vs, x1, x2⟩ := r0; rw [x1] at z; cases z
    | dic kvs => exact r0
    | ins cc fs => obtain ⟨dx, vs, x1, x2⟩ := r0; rw [x1] at z; cases z
  have le : Le W.K α H α (upd H a o') := by
    refine ⟨⟨[], by simp⟩, fun q ws z => ?_, fun q ws z => ?_⟩
    · rcases z with z | z
      · have n := nt q ws z
        rcases z with z | ⟨o, z⟩
        · exact .inl (.inl (by rw [upd_ne n]; exact z))
        · exact .inl (.inr ⟨o, by rw [upd_ne n]; exact z⟩)
      · exact .inr z
    · rcases z with ⟨o, z⟩ | z
      · exact .inl ⟨o, by rw [upd_ne (nf q o ws z)]; exact z⟩
      · exact .inr z
  refine ⟨le, ⟨by rw [List.length_set]; exact hc.len, hc.nd, fun i o b e1 e2 => ?_⟩⟩
  by_cases hi : i = k
  · subst hi
    rw [ea] at e2; cases e2
    rw [List.getElem?_set_self (List.getElem?_eq_some_iff.mp e).1] at e1
    cases e1
    exact ro le upd_same
  · rw [List.getElem?_set_ne (Ne.symm hi)] at e1
    have nb : b ≠ a := by
      rintro rfl
      obtain ⟨k1, k2⟩ := List.getElem?_eq_some_iff.mp e2
      obtain ⟨k3, k4⟩ := List.getElem?_eq_some_iff.mp ea
      exact hi ((List.getElem_inj hc.nd).mp (k2.trans k4.symm))
    have q := hc.ob i o b e1 e2
    cases o with
    | lst ds => obtain ⟨ws, x1, x2⟩ := q; exact ⟨ws, by rw [upd_ne nb]; exact x1, x2.mono le⟩
    | dic kvs => exact q.elim
    | ins cc fs => obtain ⟨dx, ws, x1, x2⟩ := q; exact ⟨dx, ws, by rw [upd_ne nb]; exact x1, x2.mono le⟩
theorem q_tup {x1} (ha : PA X es (semA W Wx ga)) : PE X (.Tuple es x1 pos) (semE W Wx (e_tup ga)) :=
  (pe_tup ha).imp fun σ H Q q => bindG (g := fun env xs h1 => if xs.length ≤ LIM then Res.ok (D.tup xs) h1 else .bad) q fun α env xs h1 vs H1 c rx k => by
    obtain ⟨hl, k⟩ := Run.ite k
    have rx : Reps W.K α H1 xs vs := rx
    refine ⟨by rw [← rx.length]; exact hl, fun p hp => ?_⟩
    obtain ⟨le, hc, rr⟩ := new_tup hp c.hc rx
    exact k α _ _ le hc rr
theorem size_lim : sizeLine = LIM := sizeLine_eq
theorem q_lst (ha : PA X es (semA W Wx ga)) : PE X (.List es pos) (semE W Wx (e_lst ga)) :=
  (pe_lst ha).imp fun σ H Q q => bindG (g := fun env xs h1 => if xs.length ≤ LIM then newO (.lst xs) h1 else .bad) q fun α env xs h1 vs H1 c rx k => by
    obtain ⟨hl, k⟩ := Run.ite k
    have rx : Reps W.K α H1 xs vs := rx
    refine ⟨by rw [← rx.length, size_lim]; exact hl, fun p hp => ?_⟩
    obtain ⟨le, hc, rr⟩ := new_lst hp c.hc rx
    exact k _ _ _ le hc rr
/-- a call of a built-in -/
theorem sem_cb {op : OL} {r : List V → Hp → VK → Prop} (hs : OLS W op r) {Q : VK} (q : semE W Wx (e_call op ga) σ H Q) : tCB r (semA W Wx ga) σ H Q :=
  bindG (g := fun env xs h1 => op xs h1) q fun α env xs h1 vs H1 c rx k => hs (WE Wx σ) α H1 h1 xs vs Q c.hc rx k
variable {x : Str} {p : Pos} {e : Expr} {id T : String} {r : List V → Hp → VK → Prop} {op : OL}
theorem q_callB (hs : OLS W op r) (hc : CallR X (.builtin id) r) (hg : Gl X x) (hm : X.mg x = none) (hv : bootBuiltins x = some (.builtin id)) (ha : PA X (e :: es) (semA W Wx ga)) (hn : x ≠ "__name__" := by decide) (hdb : (x == ("__debug__" : Str)) = false := by decide)
    (he : starEach (e :: es) X.env = (false, eval e X.env) :: starEach es X.env := by rfl) (hpl : (backTo pos (starEach es X.env)).any (·.1) = false := by rfl) :
    PE X (.Call (.Name x p) (e :: es) [] pos) (semE W Wx (e_call op ga)) := (pe_callB hc hg hm hv ha hn hdb he hpl).imp fun _ _ _ q => sem_cb hs q
theorem q_callTy (hs : OLS W op r) (hc : CallR X (.type T) r) (hg : Gl X x) (hm : X.mg x = none) (hv : bootBuiltins x = some (.type T)) (ha : PA X (e :: es) (semA W Wx ga)) (hn : x ≠ "__name__" := by decide) (hdb : (x == ("__debug__" : Str)) = false := by decide)
    (he : starEach (e :: es) X.env = (false, eval e X.env) :: starEach es X.env := by rfl) (hpl : (backTo pos (starEach es X.env)).any (·.1) = false := by rfl) :
    PE X (.Call (.Name x p) (e :: es) [] pos) (semE W Wx (e_call op ga)) := (pe_callTy hc hg hm hv ha hn hdb he hpl).imp fun _ _ _ q => sem_cb hs q
end
end IR

/-! ### statements, loops, comprehensions -/
namespace L2
open PySem
theorem PG.imp {X : Cx} {e : Expr} {t t' : TG} (p : PG X e t) (i : ∀ v σ H Q, t' v σ H Q → t v σ H Q) : PG X e t' := ⟨fun pins s σ H v u Q I r h => p.run pins s σ H v u Q I r (i v σ H Q h)⟩
theorem PGs.imp {X : Cx} {es : List Expr} {t t' : TGs} (p : PGs X es t) (i : ∀ v σ H Q, t' v σ H Q → t v σ H Q) : PGs X es t' := ⟨fun pins s σ H v u Q I r h => p.run pins s σ H v u Q I r (i v σ H Q h)⟩
theorem PI.imp {X : Cx} {tg it : Expr} {t t' : TI} (p : PI X tg it t) (i : ∀ σ H R, t' σ H R → t σ H R) : PI X tg it t' := ⟨fun pins s σ H R I h => p.run pins s σ H R I (i σ H R h)⟩
theorem PTs.imp {X : Cx} {es : List Expr} {t t' : TT} (p : PTs X es t) (i : ∀ σ H Q, t' σ H Q → t σ H Q) : PTs X es t' := ⟨fun pins s σ H Q I h => p.run pins s σ H Q I (i σ H Q h)⟩
end L2
namespace IR
open PySem PySem.Spec PyProof.Rows L2
section
variable (W : Wd)
def FlowRun (Wx : WX) (D : Ends) (α : List Addr) (H : Hp) : IR.Flow → Prop
  | .nx env' h' => ∀ α' σ' H', Le W.K α H α' H' → Corr W α' env' h' σ' H' → D.nx σ' H'
  | .rt d h' => ∀ α' H' v, Le W.K α H α' H' → HCorr W α' h' H' → Rep W.K α' H' d v → D.rt v H'
  | .bk env' h' => ∀ α' σ' H', Le W.K α H α' H' → Corr W α' env' h' σ' H' → D.bk σ' H'
  | .ct env' h' => ∀ α' σ' H', Le W.K α H α' H' → Corr W α' env' h' σ' H' → D.ct σ' H'
  | .exc c d env' h' => ∀ α' σ' H' dx v, Le W.K α H α' H' → Corr W α' env' h' σ' H' → Rep W.K α' H' d v → H' dx = some (.xd [(W.fld "value", v)]) → Wx (.ref (W.cl c)) (some dx) σ' H'
  | .bad => False
def semS (Wx : WX) (f : SS) : TS := fun D σ H => ∃ α env h, Corr W α env h σ H ∧ FlowRun W Wx D α H (f env h)
/-- S: what is kept of the slots -/
def semGt (S : L2.St → L2.St → Prop) (g : SG) : TG := fun v σ H Q => ∃ α env h d, Corr W α env h σ H ∧ Rep W.K α H d v ∧ match g d env h with
  | .nx env' h' => ∀ α' σ' H', Le W.K α H α' H' → Corr W α' env' h' σ' H' → S σ σ' → Q σ' H'
  | _ => False
def semGs (S : L2.St → L2.St → Prop) (g : List D → IR.Env → IR.Heap → IR.Flow) : TGs := fun vs σ H Q => ∃ α env h ds, Corr W α env h σ H ∧ Reps W.K α H ds vs ∧ match g ds env h with
  | .nx env' h' => ∀ α' σ' H', Le W.K α H α' H' → Corr W α' env' h' σ' H' → S σ σ' → Q σ' H'
  | _ => False
abbrev AnyS : L2.St → L2.St → Prop := fun _ _ => True
abbrev OwnS (own : List Nat) : L2.St → L2.St → Prop := fun σ σ' => L2.wipe σ' own = L2.wipe σ own
/-- an iterator walks what is told -/
structure ItS (α : List Addr) (H : Hp) (src : Src) (J : It) : Prop where
  go : ∀ i α' h' H' d, Le W.K α H α' H' → HCorr W α' h' H' → src.ok h' = true → src.items[i]? = some d → J.go i H' ∧ ∀ x H2, J.yld i H' x H2 → Le W.K α' H' α' H2 ∧ HCorr W α' h' H2 ∧ Rep W.K α' H2 d x
  stop : ∀ i α' h' H', Le W.K α H α' H' → HCorr W α' h' H' → src.ok h' = true → src.items.length ≤ i → J.stop i H'
abbrev RIt : List Addr → Hp → Src → It → Prop := fun α H s J => ItS W α H s J
abbrev semI (Wx : WX) (f : SI) : TI := semG W (RIt W) Wx f
end
section
variable {W : Wd} {Wx : WX} {α α' : List Addr} {σ σ' : L2.St} {H H' : Hp} {env env' : IR.Env} {h h' : IR.Heap} {X : Cx} {pos : Pos} {De : Ends}
theorem FlowRun.later {f : IR.Flow} (k : FlowRun W Wx De α H f) (le : Le W.K α H α' H') : FlowRun W Wx De α' H' f := by
  cases f with
  | nx env' h' => exact fun β σ' H2 l c => k β σ' H2 (le.trans l) c
  | rt d h' => exact fun β H2 v l c r => k β H2 v (le.trans l) c r
  | bk env' h' => exact fun β σ' H2 l c => k β σ' H2 (le.trans l) c
  | ct env' h' => exact fun β σ' H2 l c => k β σ' H2 (le.trans l) c
  | exc c d env' h' => exact fun β σ' H2 dx v l c => k β σ' H2 dx v (le.trans l) c
  | bad => exact k
/-- an expression, then what follows -/
theorem toR {β γ : Type} {R : List Addr → Hp → β → γ → Prop} {P : γ → Hp → Prop} {f : IR.Env → IR.Heap → Res β} {g : β → IR.Heap → IR.Flow} (c : Corr W α env h σ H) (q : FlowRun W Wx De α H ((f env h).to env g))
    (k : ∀ α' b h1 v H1, Le W.K α H α' H1 → Corr W α' env h1 σ H1 → R α' H1 b v → FlowRun W Wx De α' H1 (g b h1) → P v H1) : semG W R Wx f σ H P := by
  refine ⟨α, env, h, c, ?_⟩
  cases e : f env h with
  | bad => rw [e] at q; exact q
  | exc c1 d h' => rw [e] at q; exact fun α' H' dx v le hc r x => q α' σ H' dx v le (c.later le hc) r x
  | ok b h1 =>
    rw [e] at q
    exact fun α' H1 v le hc r => k α' b h1 v H1 le (c.later le hc) r (FlowRun.later q le)
theorem toG {β γ : Type} {R : List Addr → Hp → β → γ → Prop} {P : γ → Hp → Prop} {f : IR.Env → IR.Heap → Res β} {g : IR.Env → β → IR.Heap → IR.Flow} (q : semS W Wx (fun env h => (f env h).to env (g env)) De σ H)
    (k : ∀ α env b h1 v H1, Corr W α env h1 σ H1 → R α H1 b v → FlowRun W Wx De α H1 (g env b h1) → P v H1) : semG W R Wx f σ H P := by
  obtain ⟨α, env, h, c, q⟩ := q
  exact toR (g := g env) c q fun α' b h1 v H1 _ c r q => k α' env b h1 v H1 c r q
/-- behind gc -/
theorem toGc {P : V → Hp → Prop} {f : SE} {g : IR.Env → D → IR.Heap → IR.Flow} (q : semS W Wx (fun env h => (gc h (f env h)).to env (g env)) De σ H)
    (k : ∀ α env b h1 v H1, Corr W α env h1 σ H1 → Rep W.K α H1 b v → FlowRun W Wx De α H1 (g env b h1) → P v H1) : semE W Wx f σ H P := by
  obtain ⟨α, env, h, c, q⟩ := q
  obtain ⟨α2, env2, h2, c2, q2⟩ := toR (R := RV W) (f := fun env h => gc h (f env h)) (g := g env) c q fun α' b h1 v H1 _ c r q => k α' env b h1 v H1 c r q
  exact ⟨α2, env2, h2, c2, Run.gc c2.hc q2⟩
theorem toGcB {P : Bool → Hp → Prop} {f : ST} {g : IR.Env → Bool → IR.Heap → IR.Flow} (q : semS W Wx (fun env h => (gcB h (f env h)).to env (g env)) De σ H)
    (k : ∀ α env b h1 H1, Corr W α env h1 σ H1 → FlowRun W Wx De α H1 (g env b h1) → P b H1) : semT W Wx f σ H P := by
  obtain ⟨α, env, h, c, q⟩ := q
  obtain ⟨α2, env2, h2, c2, q2⟩ := toR (R := RI) (f := fun env h => gcB h (f env h)) (g := g env) (P := P) c q fun α' b h1 v H1 _ c r q => by cases r; exact k α' env b h1 H1 c q
  exact ⟨α2, env2, h2, c2, Run.gcB c2.hc q2⟩
variable {e : Expr} {fa fb : SE} {fs gs : SS} {st : Stmt} {rest : List Stmt}
theorem qs_nil : PSs X [] (semS W Wx s_nil) := pss_nil.imp fun D σ H ⟨α, env, h, c, q⟩ => q α σ H Le.refl c
theorem sem_seq (q : semS W Wx (s_cons fs gs) De σ H) : tSeq (semS W Wx fs) (semS W Wx gs) De σ H := by
  obtain ⟨α, env, h, c, q⟩ := q
  refine ⟨α, env, h, c, ?_⟩
  simp only [s_cons] at q
  cases e : fs env h with
  | nx env' h' =>
    rw [e] at q
    intro α' σ' H' le c'
    exact ⟨α', env', h', c', FlowRun.later (f := gs env' h') q le⟩
  | _ => rw [e] at q; exact q
theorem qs_cons (h1 : PS X st (semS W Wx fs)) (h2 : PSs X rest (semS W Wx gs)) : PSs X (st :: rest) (semS W Wx (s_cons fs gs)) := (pss_cons h1 h2).imp fun _ _ _ q => sem_seq q
theorem qs_one (h1 : PS X st (semS W Wx fs)) : PSs X [st] (semS W Wx fs) := pss_one h1
theorem q_bad : PS X st (semS W Wx s_bad) := ps_never.imp fun _ _ _ ⟨_, _, _, _, q⟩ => q
theorem qe_bad {e : Expr} : PE X e (semE W Wx fun _ _ => .bad) := ⟨fun _ _ _ _ _ _ ⟨_, _, _, _, q⟩ => q.elim⟩
theorem q_pass : PS X (.Pass pos) (semS W Wx s_nil) := ps_pass.imp fun D σ H ⟨α, env, h, c, q⟩ => q α σ H Le.refl c
theorem q_brk : PS X (.Break pos) (semS W Wx s_brk) := ps_break.imp fun D σ H ⟨α, env, h, c, q⟩ => q α σ H Le.refl c
theorem q_cnt : PS X (.Continue pos) (semS W Wx s_cnt) := ps_continue.imp fun D σ H ⟨α, env, h, c, q⟩ => q α σ H Le.refl c
theorem q_expr (he : PE X e (semE W Wx fa)) (hs : swapsWith e none pos.line X.env = pure false := by rfl) : PS X (.Expr e pos) (semS W Wx (s_expr fa)) :=
  (ps_expr he hs).imp fun D σ H q => toGc (g := fun env _ h1 => IR.Flow.nx env h1) q fun α env b h1 v H1 c r k => k α σ H1 Le.refl c
theorem q_ret (he : PE X e (semE W Wx fa)) : PS X (.Return (some e) pos) (semS W Wx (s_ret fa)) :=
  (ps_ret he).imp fun D σ H q => toG (R := RV W) (g := fun env x h1 => IR.Flow.rt x h1) q fun α env b h1 v H1 c r k => k α H1 v Le.refl c.hc r
theorem q_retN : PS X (.Return none pos) (semS W Wx s_retN) := ps_retN.imp fun D σ H ⟨α, env, h, c, q⟩ => q α H .non Le.refl c.hc (by simp only [Rep])
theorem q_ifS {c : Expr} {t : ST} {a b : List Stmt} (hc : PT X c (semT W Wx t)) (ha : PSs X a (semS W Wx fs)) (hb : PSs X b (semS W Wx gs)) : PS X (.If c a b pos) (semS W Wx (s_if t fs gs)) :=
  (ps_if hc ha hb).imp fun D σ H q => toGcB (g := fun env b h1 => if b then fs env h1 else gs env h1) q fun α env b h1 H1 c k => by
    cases b with
    | true => exact iteT ⟨α, env, h1, c, k⟩
    | false => exact iteF ⟨α, env, h1, c, k⟩
/-! targets -/
theorem Corr.set {i : Nat} {d : D} {v : V} (c : Corr W α env h σ H) (r : Rep W.K α H d v) : Corr W α (env.set i (some d)) h (σ.set i (some v)) H := by
  refine ⟨c.hc, by rw [List.length_set, List.length_set, c.len], fun j x e => ?_⟩
  by_cases hj : j = i
  · subst hj
    have hl : j < env.length := by
      have := (List.getElem?_eq_some_iff.mp e).1
      rwa [List.length_set] at this
    rw [List.getElem?_set_self hl] at e
    cases e
    exact ⟨v, List.getElem?_set_self (by rw [← c.len]; exact hl), r⟩
  · rw [List.getElem?_set_ne (Ne.symm hj)] at e
    obtain ⟨u, hu, ru⟩ := c.en j x e
    exact ⟨u, by rw [List.getElem?_set_ne (Ne.symm hj)]; exact hu, ru⟩
variable {S : L2.St → L2.St → Prop}
theorem qg_name (i : Nat) {x : Str} (hN : X.N.Nodup) (hS : ∀ σ v, S σ (σ.set i (some v)) := by exact fun _ _ => trivial) (hi : X.N[i]? = some x := by rfl) (hx : Loc X.env.scope x := by first | exact Or.inl rfl | exact Or.inr rfl) (hf : X.fn x = true ∨ X.env.scope.names.lookup x = some .local := by first | exact .inl rfl | exact .inr rfl | assumption) : PG X (.Name x pos) (semGt W S (g_name i)) :=
  (pg_name hN hi hx hf).imp fun v σ H Q ⟨α, env, h, d, c, r, q⟩ => q α _ H Le.refl (c.set r) (hS σ v)
theorem qgs_nil (hS : ∀ σ, S σ σ := by exact fun _ => trivial) : PGs X [] (semGs W S g_nil) := pgs_nil.imp fun vs σ H Q ⟨α, env, h, ds, c, r, q⟩ => by
  cases ds with
  | nil => simp only [Reps] at r; exact ⟨r, q α σ H Le.refl c (hS σ)⟩
  | cons d ds => exact q.elim
theorem qgs_cons {e : Expr} {es : List Expr} {g : SG} {gs : List D → IR.Env → IR.Heap → IR.Flow} (h1 : PG X e (semGt W S g)) (h2 : PGs X es (semGs W S gs)) (hS : ∀ a b c, S a b → S b c → S a c := by exact fun _ _ _ _ _ => trivial) (hs : (assignEach (e :: es) X.env).map (·.2) = assign e X.env :: (assignEach es X.env).map (·.2) := by rfl) : PGs X (e :: es) (semGs W S (g_cons g gs)) :=
  (pgs_cons h1 h2 hs).imp fun vs σ H Q ⟨α, env, h, ds, c, r, q⟩ => by
    cases ds with
    | nil => exact q.elim
    | cons d ds =>
      simp only [Reps] at r
      obtain ⟨v, rs, rfl, rv, rr⟩ := r
      refine ⟨v, rs, rfl, α, env, h, d, c, rv, ?_⟩
      simp only [g_cons] at q
      cases e : g d env h with
      | nx env' h' =>
        rw [e] at q
        simp only [Flow.then] at q
        intro α' σ' H' le c' s1
        refine ⟨α', env', h', ds, c', rr.mono le, ?_⟩
        cases e2 : gs ds env' h' with
        | nx env2 h2 => rw [e2] at q; exact fun α2 σ2 H2 le2 c2 s2 => q α2 σ2 H2 (le.trans le2) c2 (hS _ _ _ s1 s2)
        | _ => rw [e2] at q; exact q
      | _ => rw [e] at q; exact q
theorem qg_tup {es : List Expr} {k : Nat} {n : Nat} {gs : List D → IR.Env → IR.Heap → IR.Flow} (hK : W.K = X.K) (hc : X.calm = true) (h : PGs X es (semGs W S gs)) (hn : (assignEach es X.env).length = n := by rfl) (hst : (assignEach es X.env).findIdx? (·.1) = none := by rfl) : PG X (.Tuple es k pos) (semGt W S (g_tup n gs)) :=
  (pg_tup hc h hn hst).imp fun v σ H Q ⟨α, env, h, d, c, r, q⟩ => by
    cases d with
    | tup ds =>
      simp only [Rep] at r
      obtain ⟨p, vs, rfl, ht, rr⟩ := r
      simp only [g_tup] at q
      by_cases hl : ds.length = n
      · rw [if_pos hl] at q
        exact ⟨p, vs, rfl, hK ▸ ht, by rw [← rr.length]; exact hl, α, env, h, ds, c, rr, q⟩
      · rw [if_neg hl] at q; exact q.elim
    | _ => exact q.elim
theorem q_asg {tg : Expr} {g : SG} (he : PE X e (semE W Wx fa)) (hg : PG X tg (semGt W AnyS g)) (hs : swapsWithSole [tg] e pos.line X.env = pure false := by rfl) (hw : swappedStores [tg] e X.env = pure none := by rfl)
    (h1 : (assignEach [tg] X.env).map (·.2) = [assign tg X.env] := by rfl) : PS X (.Assign [tg] e pos) (semS W Wx (s_asg fa g)) :=
  (ps_asg he hg hs hw h1).imp fun D σ H q => toGc (g := fun env x h1 => onlyNx (g x env h1)) q fun α env b h1 v H1 c r k => by
    refine ⟨α, env, h1, b, c, r, ?_⟩
    cases e : g b env h1 with
    | nx env' h' => rw [e] at k; exact fun a b c d e _ => k a b c d e
    | _ => rw [e] at k; exact k.elim
/-- a name = e -/
theorem q_set (i : Nat) {x : Str} {pos' : Pos} (hN : X.N.Nodup) (he : PE X e (semE W Wx fa)) (hi : X.N[i]? = some x := by rfl) (hx : Loc X.env.scope x := by first | exact Or.inl rfl | exact Or.inr rfl) (hs : swapsWith e (some (.Name x pos')) pos.line X.env = pure false := by rfl) (hf : X.fn x = true ∨ X.env.scope.names.lookup x = some .local := by first | exact .inl rfl | exact .inr rfl | assumption) :
    PS X (.Assign [.Name x pos'] e pos) (semS W Wx (s_asg fa (g_name i))) :=
  (ps_set hN hi hx he hs hf).imp fun D σ H q => toGc (g := fun env x h1 => onlyNx (g_name i x env h1)) q fun α env b h1 v H1 c r k => k α _ H1 Le.refl (c.set r)
/-- a, b = e1, e2 -/
theorem q_par (i j : Nat) {x y : Str} {a b : Expr} {px py pt : Pos} {kt k2 pt2} (hc : X.calm = true) (hN : X.N.Nodup) (ha : PE X a (semE W Wx fa)) (hb : PE X b (semE W Wx fb))
    (hw : swappedStores [.Tuple [.Name x px, .Name y py] kt pt] (.Tuple [a, b] k2 pt2) X.env = pure (some [x, y])) (hi : X.N[i]? = some x := by rfl) (hj : X.N[j]? = some y := by rfl) (hij : i ≠ j := by decide)
    (hx : X.env.scope.names.lookup x = some .local := by rfl) (hy : X.env.scope.names.lookup y = some .local := by rfl)
    (hs : swapsWithSole [.Tuple [.Name x px, .Name y py] kt pt] (.Tuple [a, b] k2 pt2) pos.line X.env = pure false := by rfl)
    (h1 : starEach [a, b] X.env = (false, eval a X.env) :: starEach [b] X.env := by rfl) (h2 : starEach [b] X.env = (false, eval b X.env) :: starEach [] X.env := by rfl) : PS X (.Assign [.Tuple [.Name x px, .Name y py] kt pt] (.Tuple [a, b] k2 pt2) pos) (semS W Wx (s_par i j fa fb)) :=
  (ps_par hc hN hi hj hij hx hy (qa_cons ha (qa_cons hb qa_nil h2) h1) hw hs).imp fun D σ H ⟨α, env, h, c, q⟩ => by
    simp only [s_par] at q
    refine ⟨α, env, h, c, ?_⟩
    simp only [a_cons, a_nil]
    cases e : fa env h with
    | bad => rw [e] at q; exact q
    | exc c1 d h' => rw [e] at q; exact fun α' H' dx v le hc r x => q α' σ H' dx v le (c.later le hc) r x
    | ok z h1 =>
      rw [e] at q
      simp only [Res.to_ok] at q
      simp only [Res.bind_ok]
      cases e2 : fb env h1 with
      | bad => rw [e2] at q; exact q
      | exc c1 d h' => rw [e2] at q; exact fun α' H' dx v le hc r x => q α' σ H' dx v le (c.later le hc) r x
      | ok z2 h2 =>
        rw [e2] at q
        simp only [Res.to_ok] at q
        intro α' H' vs le hc r
        simp only [RL, Reps] at r
        obtain ⟨v, r1, rfl, rv, w, r2, rfl, rw', rfl⟩ := r
        exact ⟨v, w, rfl, q α' _ H' le (((c.later le hc).set rv).set rw')⟩
/-! loops -/
theorem q_while {c : Expr} {t : ST} {body : List Stmt} (hp : PassesOwn (model X.prog X.w) X.A X.env X.xe) (hc : PT X c (semT W Wx t)) (hb : PSs X body (semS W Wx fs)) : PS X (.While c body [] pos) (semS W Wx (s_while t fs)) :=
  (ps_while hp hc hb).imp fun De σ H ⟨α, env, h, c, q⟩ => by
    refine ⟨fun m σ H => ∃ α env h, Corr W α env h σ H ∧ FlowRun W Wx De α H (whileF t fs m env h), ⟨WF, α, env, h, c, q⟩, fun m σ H ⟨α, env, h, c, q⟩ => ?_⟩
    cases m with
    | zero => exact q.elim
    | succ m =>
      refine toGcB (f := t) (g := fun env b h1 => if b then match fs env h1 with
        | .nx σ' h' => whileF t fs m σ' h'
        | .ct σ' h' => whileF t fs m σ' h'
        | .bk σ' h' => .nx σ' h'
        | r => r else .nx env h1) ⟨α, env, h, c, q⟩ fun α env b h1 H1 c k => ?_
      cases b with
      | false => exact iteF (k α σ H1 Le.refl c)
      | true =>
        refine iteT ⟨fun σ' H' => ∃ α env h, Corr W α env h σ' H' ∧ FlowRun W Wx De α H' (whileF t fs m env h), fun σ' H' z => ⟨m, Nat.lt_succ_self m, z⟩, α, env, h1, c, ?_⟩
        simp only [if_true] at k
        cases e : fs env h1 with
        | nx env' h' => rw [e] at k; exact fun α' σ' H' le c' => ⟨α', env', h', c', FlowRun.later k le⟩
        | ct env' h' => rw [e] at k; exact fun α' σ' H' le c' => ⟨α', env', h', c', FlowRun.later k le⟩
        | bk env' h' => rw [e] at k; exact k
        | rt d h' => rw [e] at k; exact k
        | exc c1 d env' h' => rw [e] at k; exact k
        | bad => rw [e] at k; exact k
theorem q_for {tg iter : Expr} {it : SI} {g : SG} {body : List Stmt} (hp : PassesOwn (model X.prog X.w) X.A X.env X.xe) (hc : X.calm = true) (hi : PI X tg iter (semI W Wx it)) (hg : PG X tg (semGt W AnyS g)) (hb : PSs X body (semS W Wx fs))
    (hs : ∀ x, foldedSetIterable iter X.env x = pure x := by intro _; rfl) : PS X (.For tg iter body [] pos) (semS W Wx (s_for it g fs)) :=
  (ps_for hp hc hi hg hb hs).imp fun De σ H q => toG (R := RIt W) (g := fun env s h1 => forF g fs s s.items env h1) q fun α0 env0 src h0 J H0 c0 is k0 => by
    refine ⟨fun i m σ H => m + i = src.items.length ∧ ∃ α env h, Le W.K α0 H0 α H ∧ Corr W α env h σ H ∧ FlowRun W Wx De α H (forF g fs src (src.items.drop i) env h), ⟨src.items.length, rfl, α0, env0, h0, Le.refl, c0, by simpa using k0⟩, fun i m σ H ⟨hm, α, env, h, le, c, q⟩ => ?_⟩
    cases ed : src.items.drop i with
    | nil =>
      rw [ed] at q
      simp only [forF] at q
      by_cases hok : src.ok h = true
      · rw [if_pos hok] at q
        exact .inl ⟨is.stop i α h H le c.hc hok (by simpa using ed), q α σ H Le.refl c⟩
      · rw [if_neg hok] at q; exact q.elim
    | cons x xs =>
      rw [ed] at q
      simp only [forF] at q
      by_cases hok : src.ok h = true
      · rw [if_pos hok] at q
        have hx : src.items[i]? = some x := by
          have := congrArg List.head? ed
          simpa [List.head?_drop] using this
        have hxs : src.items.drop (i + 1) = xs := by
          have := congrArg List.tail ed
          simpa [List.tail_drop] using this
        have hil : i < src.items.length := (List.getElem?_eq_some_iff.mp hx).1
        obtain ⟨g1, g2⟩ := is.go i α h H x le c.hc hok hx
        refine .inr ⟨g1, fun σ' H' => ∃ α env h, Le W.K α0 H0 α H' ∧ Corr W α env h σ' H' ∧ FlowRun W Wx De α H' (forF g fs src xs env h), fun σ' H' ⟨α, env, h, l, c, q⟩ => ⟨m - 1, by omega, by omega, α, env, h, l, c, by rw [hxs]; exact q⟩, fun v H' y => ?_⟩
        obtain ⟨le1, hc1, rx⟩ := g2 v H' y
        refine ⟨α, env, h, x, c.later le1 hc1, rx, ?_⟩
        cases eg : g x env h with
        | nx env1 h1 =>
          rw [eg] at q
          simp only at q
          intro α2 σ2 H2 le2 c2 _
          refine ⟨α2, env1, h1, c2, ?_⟩
          have l02 := (le.trans le1).trans le2
          have q2 := FlowRun.later q (le1.trans le2)
          cases e : fs env1 h1 with
          | nx env' h' => rw [e] at q2; exact fun α' σ' H' l c' => ⟨α', env', h', l02.trans l, c', FlowRun.later q2 l⟩
          | ct env' h' => rw [e] at q2; exact fun α' σ' H' l c' => ⟨α', env', h', l02.trans l, c', FlowRun.later q2 l⟩
          | bk env' h' => rw [e] at q2; exact q2
          | rt d h' => rw [e] at q2; exact q2
          | exc c1 d env' h' => rw [e] at q2; exact q2
          | bad => rw [e] at q2; exact q2
        | _ => rw [eg] at q; exact q.elim
      · rw [if_neg hok] at q; exact q.elim
/-! comprehensions -/
abbrev W0 : WX := fun _ _ _ _ => False
theorem wipe_len (own : List Nat) : (IR.wipe env own).length = env.length := by
  induction own with
  | nil => rfl
  | cons v vs ih => simp only [IR.wipe, List.length_set, ih]
theorem wipe_get (σ : L2.St) : ∀ (own : List Nat) (i : Nat), (L2.wipe σ own)[i]? = if i ∈ own ∧ i < σ.length then some none else σ[i]?
  | [], i => by simp [L2.wipe]
  | v :: vs, i => by
    have ih := wipe_get σ vs i
    unfold L2.wipe
    by_cases hi : v = i
    · subst hi
      by_cases hl : v < σ.length
      · rw [List.getElem?_set_self (by rw [L2.wipe_length]; exact hl), if_pos ⟨List.mem_cons_self, hl⟩]
      · rw [List.getElem?_eq_none (by simpa [L2.wipe_length] using hl), if_neg (fun z => hl z.2), List.getElem?_eq_none (by omega)]
    · rw [List.getElem?_set_ne hi, ih]
      have : i ∈ v :: vs ↔ i ∈ vs := by simp [Ne.symm hi]
      simp only [this]
theorem wipe_wipe (σ : L2.St) (own : List Nat) : L2.wipe (L2.wipe σ own) own = L2.wipe σ own := by
  apply List.ext_getElem?
  intro i
  rw [wipe_get, wipe_get, L2.wipe_length]
  split <;> rfl
theorem wipe_own {σ : L2.St} {own : List Nat} {i : Nat} {o : Option V} (h : i ∈ own) : L2.wipe (σ.set i o) own = L2.wipe σ own := by
  apply List.ext_getElem?
  intro j
  rw [wipe_get, wipe_get, List.length_set]
  by_cases hj : j ∈ own ∧ j < σ.length
  · rw [if_pos hj, if_pos hj]
  · rw [if_neg hj, if_neg hj]
    by_cases hij : i = j
    · subst hij
      have : ¬ i < σ.length := fun z => hj ⟨h, z⟩
      rw [List.getElem?_eq_none (by simpa using this), List.getElem?_eq_none (by omega)]
    · rw [List.getElem?_set_ne hij]
theorem Corr.wipe (c : Corr W α env h σ H) (own : List Nat) : Corr W α (IR.wipe env own) h (L2.wipe σ own) H := by
  induction own with
  | nil => exact c
  | cons v vs ih =>
    refine ⟨c.hc, by rw [wipe_len, L2.wipe_length, c.len], fun i d e => ?_⟩
    simp only [IR.wipe] at e
    by_cases hi : i = v
    · subst hi
      by_cases hl : i < (IR.wipe env vs).length
      · rw [List.getElem?_set_self hl] at e; cases e
      · rw [List.getElem?_eq_none (by simpa using hl)] at e; cases e
    · rw [List.getElem?_set_ne (Ne.symm hi)] at e
      obtain ⟨u, hu, ru⟩ := ih.en i d e
      exact ⟨u, by unfold L2.wipe; rw [List.getElem?_set_ne (Ne.symm hi)]; exact hu, ru⟩
theorem noX_run {E E' : XK} {β γ δ ε : Type} {R : List Addr → Hp → β → γ → Prop} {R' : List Addr → Hp → δ → ε → Prop} {Q : ε → Hp → Prop} {P : γ → Hp → Prop} {r : Res β} {g : β → IR.Heap → Res δ} (hc : HCorr W α h H) (q : Run W R' E α H Q ((noX r).bind g))
    (k : ∀ α' b h1 v H1, Le W.K α H α' H1 → HCorr W α' h1 H1 → R α' H1 b v → Run W R' E α' H1 Q (g b h1) → P v H1) : Run W R E' α H P r := by
  cases r with
  | ok b h1 => exact fun α' H1 v le hc r => k α' b h1 v H1 le hc r (Run.later q le)
  | exc c d h' => exact q.elim
  | bad => exact q.elim
theorem sem_lc {it : SI} {g : SG} {t : ST} {own : List Nat} {Q : VK} (q : semE W Wx (e_lc it g t fa own) σ H Q) : tLc (semI W Wx it) (semGt W (OwnS own) g) (semT W W0 t) (semE W W0 fa) own σ H Q :=
  bindG (g := fun env s h1 => (lcF g t fa own s h1.length s.items (IR.wipe env own) (h1 ++ [.lst []])).bind fun _ h2 => Res.ok (D.ref h1.length) h2) q fun α0 env0 src h0 J H0 c0 is k0 => by
    intro A hA
    have n0 := new_lst (ds := []) (vs := []) hA c0.hc (by simp only [Reps])
    obtain ⟨len0, hcn, rn⟩ := n0
    have aL : (α0 ++ [A])[h0.length]? = some A := by rw [← c0.hc.len]; simp
    generalize hL : h0.length = L at *
    have c1 : Corr W (α0 ++ [A]) (IR.wipe env0 own) (h0 ++ [.lst []]) (L2.wipe σ own) (upd H0 A (.lst [])) := (c0.later len0 hcn).wipe own
    refine ⟨fun i m H => m + i = src.items.length ∧ ∃ α h, Le W.K α0 H0 α H ∧ Corr W α (IR.wipe env0 own) h (L2.wipe σ own) H ∧ α[L]? = some A ∧ Run W (RV W) (WE Wx σ) α H Q ((lcF g t fa own src L (src.items.drop i) (IR.wipe env0 own) h).bind fun _ h2 => Res.ok (D.ref L) h2),
      ⟨src.items.length, rfl, α0 ++ [A], h0 ++ [.lst []], len0, c1, aL, by simpa using Run.later k0 len0⟩, fun i m H ⟨hm, α, h, le, c, ea, q⟩ => ?_⟩
    cases ed : src.items.drop i with
    | nil =>
      rw [ed] at q
      simp only [lcF] at q
      by_cases hok : src.ok h = true
      · rw [if_pos hok] at q
        exact .inl ⟨is.stop i α h H le c.hc hok (by simpa using ed), Run.done (v := V.ref A) q c.hc (by simp only [RV, Rep]; exact ⟨A, ea, rfl⟩)⟩
      · rw [if_neg hok] at q; exact q.elim
    | cons x xs =>
      rw [ed] at q
      simp only [lcF] at q
      by_cases hok : src.ok h = true
      · rw [if_pos hok] at q
        have hx : src.items[i]? = some x := by
          have := congrArg List.head? ed
          simpa [List.head?_drop] using this
        have hxs : src.items.drop (i + 1) = xs := by
          have := congrArg List.tail ed
          simpa [List.tail_drop] using this
        have hil : i < src.items.length := (List.getElem?_eq_some_iff.mp hx).1
        obtain ⟨g1, g2⟩ := is.go i α h H x le c.hc hok hx
        have keepA : ∀ {β : List Addr} {G : Hp}, Le W.K α H β G → β[L]? = some A := fun {β G} l => by
          obtain ⟨g, rfl⟩ := l.pre
          rw [List.getElem?_append_left (List.getElem?_eq_some_iff.mp ea).1]
          exact ea
        refine .inr ⟨g1, fun H' => ∃ α h, Le W.K α0 H0 α H' ∧ Corr W α (IR.wipe env0 own) h (L2.wipe σ own) H' ∧ α[L]? = some A ∧ Run W (RV W) (WE Wx σ) α H' Q ((lcF g t fa own src L xs (IR.wipe env0 own) h).bind fun _ h2 => Res.ok (D.ref L) h2), fun H' ⟨α, h, l, c, e1, q⟩ => ⟨m - 1, by omega, by omega, α, h, l, c, e1, by rw [hxs]; exact q⟩, fun v H' y => ?_⟩
        obtain ⟨le1, hc1, rx⟩ := g2 v H' y
        have cb := c.later le1 hc1
        refine ⟨α, IR.wipe env0 own, h, x, cb, rx, ?_⟩
        cases eg : g x (IR.wipe env0 own) h with
        | nx env1 h1 =>
          rw [eg] at q
          simp only at q
          intro α2 σ2 H2 le2 c2 sS
          have sS' : L2.wipe σ2 own = L2.wipe σ own := by
            rw [sS]
            exact wipe_wipe σ own
          refine ⟨sS', α2, env1, h1, c2, ?_⟩
          have l2 := le1.trans le2
          have q2 := Run.later q l2
          rw [Res.bind_assoc] at q2
          refine Run.gcB c2.hc ?_
          refine noX_run (R := RI) (g := fun b h2 => (if b then (noX (IR.gc h2 (fa env1 h2))).bind fun y h3 => match h3[L]? with
            | some (.lst acc) => if acc.length < LIM then lcF g t fa own src L xs (IR.wipe env0 own) (h3.set L (.lst (acc ++ [y]))) else .bad
            | _ => .bad else lcF g t fa own src L xs (IR.wipe env0 own) h2).bind fun _ h2 => Res.ok (D.ref L) h2) c2.hc q2 fun α3 b h3 b' H3 le3 hc3 eb q3 => ?_
          cases eb
          have l3 := l2.trans le3
          cases b with
          | false =>
            refine iteF ⟨α3, h3, le.trans l3, ?_, keepA l3, q3⟩
            exact (cb.later (le2.trans le3) hc3)
          | true =>
            simp only [if_true] at q3
            rw [Res.bind_assoc] at q3
            refine iteT ⟨α3, env1, h3, c2.later le3 hc3, ?_⟩
            refine Run.gc hc3 ?_
            refine noX_run (R := RV W) (g := fun y h4 => (match h4[L]? with
            | some (.lst acc) => if acc.length < LIM then lcF g t fa own src L xs (IR.wipe env0 own) (h4.set L (.lst (acc ++ [y]))) else .bad
            | _ => .bad).bind fun _ h2 => Res.ok (D.ref L) h2) hc3 q3 fun α4 y h4 w H4 le4 hc4 ry q4 => ?_
            have l4 := l3.trans le4
            cases e4 : h4[L]? with
            | none => rw [e4] at q4; exact q4.elim
            | some o =>
              rw [e4] at q4
              cases o with
              | lst acc =>
                simp only at q4
                by_cases hz : acc.length < LIM
                · rw [if_pos hz] at q4
                  have ro := hc4.ob L (.lst acc) A e4 (keepA l4)
                  obtain ⟨vs, hv, rvs⟩ := ro
                  refine ⟨vs, hv, by rw [← rvs.length, size_lim]; exact hz, ?_⟩
                  obtain ⟨lw, hw⟩ := write_obj (lo' := .lst (acc ++ [y])) (o' := .lst (vs ++ [w])) hc4 e4 (keepA l4) (fun {H'} l e => ⟨_, e, (rvs.mono l).append (Reps.one (Rep.mono l ry))⟩)
                  exact ⟨α4, _, (le.trans l4).trans lw, cb.later (((le2.trans le3).trans le4).trans lw) hw, keepA (l4.trans lw), Run.later q4 lw⟩
                · rw [if_neg hz] at q4; exact q4.elim
              | _ => exact q4.elim
        | _ => rw [eg] at q; exact q.elim
      · rw [if_neg hok] at q; exact q.elim
theorem q_lc {elt tg iter : Expr} {ifs : List Expr} {scope : Scope} (own : List (Str × Nat)) {it : SI} {g : SG} {t : ST} (hc : X.calm = true) (hN : X.N.Nodup) (hi : PI X tg iter (semI W Wx it)) (ok : BlkOk X.N X.env.scope scope own)
    (hg : ∀ (s : Shared) (H : Hp) (C : Addr) (cl : List (Str × Addr)) (fp : List Addr), PG (X.blk s H scope (compEnvC scope cl C X.env) fp) tg (semGt W (OwnS (own.map (·.2))) g)) (ht : ∀ (s : Shared) (H : Hp) (C : Addr) (cl : List (Str × Addr)) (fp : List Addr), PTs (X.blk s H scope (compEnvC scope cl C X.env) fp) ifs (semT W W0 t))
    (he : ∀ (s : Shared) (H : Hp) (C : Addr) (cl : List (Str × Addr)) (fp : List Addr), PE (X.blk s H scope (compEnvC scope cl C X.env) fp) elt (semE W W0 fa)) (hs : ∀ x, foldedSetIterable iter X.env x = pure x := by intro _; rfl) :
    PE X (.ListComp elt [⟨tg, iter, ifs, 0⟩] scope pos) (semE W Wx (e_lc it g t fa (own.map (·.2)))) := (pe_lc hc hN hi ok hg ht he hs).imp fun _ _ _ q => sem_lc q
theorem qts_nil : PTs X [] (semT W Wx t_yes) := pts_nil.imp fun σ H Q ⟨α, env, h, c, q⟩ => Run.done q c.hc rfl
theorem qts_one {c : Expr} {t : ST} (h : PT X c (semT W Wx t)) : PTs X [c] (semT W Wx t) := pts_one h
/-- name = [..] -/
theorem q_setLc (i : Nat) {y : Str} {py : Pos} {elt tg iter : Expr} {ifs : List Expr} {scope : Scope} {spos : Pos} (own : List (Str × Nat)) {it : SI} {g : SG} {t : ST} (hc : X.calm = true) (hN : X.N.Nodup)
    (hsw : swapsWith (.ListComp elt [⟨tg, iter, ifs, 0⟩] scope pos) (some (.Name y py)) spos.line X.env = pure true) (hi : PI X tg iter (semI W Wx it)) (ok : BlkOk X.N X.env.scope scope own)
    (hg : ∀ (s : Shared) (H : Hp) (C : Addr) (cl : List (Str × Addr)) (fp : List Addr), PG (X.blk s H scope (compEnvC scope cl C X.env) fp) tg (semGt W (OwnS (own.map (·.2))) g)) (ht : ∀ (s : Shared) (H : Hp) (C : Addr) (cl : List (Str × Addr)) (fp : List Addr), PTs (X.blk s H scope (compEnvC scope cl C X.env) fp) ifs (semT W W0 t))
    (he : ∀ (s : Shared) (H : Hp) (C : Addr) (cl : List (Str × Addr)) (fp : List Addr), PE (X.blk s H scope (compEnvC scope cl C X.env) fp) elt (semE W W0 fa))
    (hy : X.N[i]? = some y := by rfl) (hyl : X.env.scope.names.lookup y = some .local := by rfl) (hs : ∀ x, foldedSetIterable iter X.env x = pure x := by intro _; rfl) :
    PS X (.Assign [.Name y py] (.ListComp elt [⟨tg, iter, ifs, 0⟩] scope pos) spos) (semS W Wx (s_asg (e_lc it g t fa (own.map (·.2))) (g_name i))) :=
  (ps_setLc hc hN hy hyl hsw hi ok hg ht he hs).imp fun De σ H q => sem_lc (toGc (g := fun env x h1 => onlyNx (g_name i x env h1)) q fun α env b h1 v H1 c r k => k α _ H1 Le.refl (c.set r))
end
end IR
end

section
set_option Elab.async false
set_option linter.all false
set_option autoImplicit false
set_option maxRecDepth 100000
set_option maxHeartbeats 4000000
/-! operations by values -/
namespace IR
open PySem PySem.Spec PyProof.Rows L2
section
variable {W : Wd} {α : List Addr} {H : Hp} {h : IR.Heap} {E : XK} {Q : VK} {K : PySem.W.Frag}
theorem r_int {i : Int} : Rep K α H (.int i) (.int i) := by simp only [Rep]
theorem r_bl {b : Bool} : Rep K α H (.bl b) (.bl b) := by simp only [Rep]
theorem r_str {s : Txt} (o : okT s) : Rep K α H (.str s) (.str (toStr s)) := by unfold Rep; exact ⟨rfl, o⟩
theorem r_non : Rep K α H .non .non := by simp only [Rep]
theorem of_int {i : Int} {v : V} (r : Rep K α H (.int i) v) : v = .int i := by simpa only [Rep] using r
theorem of_bl {b : Bool} {v : V} (r : Rep K α H (.bl b) v) : v = .bl b := by simpa only [Rep] using r
theorem of_str {s : Txt} {v : V} (r : Rep K α H (.str s) v) : v = .str (toStr s) := by simp only [Rep] at r; exact r.1
theorem ok_str {s : Txt} {v : V} (r : Rep K α H (.str s) v) : okT s := by simp only [Rep] at r; exact r.2
theorem okT.app {s t : Txt} (a : okT s) (b : okT t) : okT (s ++ t) := fun c h => (List.mem_append.mp h).elim (a c) (b c)
theorem okT.nil : okT [] := fun c h => by cases h
theorem of_non {v : V} (r : Rep K α H .non v) : v = .non := by simpa only [Rep] using r
theorem of_tup {ds : List D} {v : V} (r : Rep K α H (.tup ds) v) : ∃ p vs, v = .ref p ∧ SqT K H p vs ∧ Reps K α H ds vs := by simpa only [Rep] using r
theorem of_frz {ds : List D} {v : V} (r : Rep K α H (.frz ds) v) : ∃ p vs, v = .ref p ∧ SqF K H p vs ∧ Reps K α H ds vs := by simpa only [Rep] using r
theorem of_ref {k : Nat} {v : V} (r : Rep K α H (.ref k) v) : ∃ a, α[k]? = some a ∧ v = .ref a := by simpa only [Rep] using r
theorem str_len (s : Txt) : (toStr s).length = s.length := by simp [Str.length]
theorem str_app (s t : Txt) : toStr s ++ toStr t = toStr (s ++ t) := by
  show Str.mk _ = Str.mk _
  simp
/-- a list of ours -/
theorem lst_at {k : Nat} {ds : List D} {v : V} (hc : HCorr W α h H) (r : Rep W.K α H (.ref k) v) (e : h[k]? = some (.lst ds)) : ∃ a vs, α[k]? = some a ∧ v = .ref a ∧ H a = some (.lst vs) ∧ Reps W.K α H ds vs := by
  obtain ⟨a, ea, rfl⟩ := of_ref r
  obtain ⟨vs, q, rr⟩ := hc.ob k _ a e ea
  exact ⟨a, vs, ea, rfl, q, rr⟩
/-- int, int -/
theorem s_int {op : O2} {g : Int → Int → V} (hop : ∀ x y h (P : Res D → Prop), P (op x y h) → (∃ i j z, x = .int i ∧ y = .int j ∧ P (.ok z h) ∧ g i j = (match z with | .int k => V.int k | .bl b => V.bl b | _ => V.non) ∧ (∃ b, z = .bl b ∨ ∃ k, z = .int k)) ∨ P .bad) : O2S W op (rI0 g) := by
  intro E α H h x y v w Q hc rx ry k
  rcases hop x y h (fun r => Run W (RV W) E α H Q r) k with ⟨i, j, z, rfl, rfl, k, e, b, hz⟩ | k
  · refine ⟨i, j, of_int rx, of_int ry, ?_⟩
    rcases hz with rfl | ⟨m, rfl⟩
    · rw [e]; exact Run.done k hc r_bl
    · rw [e]; exact Run.done k hc r_int
  · exact k.elim
end
section
variable {W : Wd}
theorem O2S.or {op : O2} {r r' : R2} (h : ∀ E α H h x y v w Q, HCorr W α h H → Rep W.K α H x v → Rep W.K α H y w → Run W (RV W) E α H Q (op x y h) → r v w H Q ∨ r' v w H Q) : O2S W op (fun v w H Q => r v w H Q ∨ r' v w H Q) := h
abbrev rIntB (p : Int → Int → Bool) : R2 := rI0 fun i j => .bl (p i j)
abbrev rAddS : R2 := fun x y H Q => ∃ i j, x = .str i ∧ y = .str j ∧ i.length + j.length ≤ sizeLine ∧ Q (.str (i ++ j)) H
abbrev rAddAll (K : PySem.W.Frag) : R2 := fun x y H Q => (rI0 (fun i j => .int (i + j)) x y H Q ∨ rAddS x y H Q) ∨ (rCatA K x y H Q ∨ rCat x y H Q)
theorem op_addAll {X : Cx} : OpR X (binaryOp .Add) (rAddAll X.K) := (op_add.or op_add_str).or (op_catA.or op_cat)
theorem s_add : O2S W o_add (rAddAll W.K) := by
  intro E α H h x y v w Q hc rx ry k
  cases x with
  | int i =>
    cases y with
    | int j => exact .inl (.inl ⟨i, j, of_int rx, of_int ry, Run.done k hc r_int⟩)
    | _ => exact k.elim
  | str s =>
    cases y with
    | str t =>
      simp only [o_add] at k
      obtain ⟨hl, k⟩ := Run.ite k
      exact .inl (.inr ⟨_, _, of_str rx, of_str ry, by rw [str_len, str_len, size_lim]; exact hl, by rw [str_app]; exact Run.done k hc (r_str ((ok_str rx).app (ok_str ry)))⟩)
    | _ => exact k.elim
  | tup s =>
    cases y with
    | tup t =>
      simp only [o_add] at k
      obtain ⟨hl, k⟩ := Run.ite k
      obtain ⟨p, vs, rfl, hp, r1⟩ := of_tup rx
      obtain ⟨q, us, rfl, hq, r2⟩ := of_tup ry
      refine .inr (.inl ⟨p, q, vs, us, rfl, rfl, hp, hq, by rw [← r1.length, ← r2.length, size_lim]; exact hl, fun e => ?_, fun _ e => ?_, fun _ _ l hl => ?_⟩)
      · subst e
        have : s = [] := List.eq_nil_of_length_eq_zero (by rw [r1.length]; rfl)
        subst this
        exact Run.done k hc (by simp only [RV, Rep, List.nil_append]; exact ⟨q, us, rfl, hq, r2⟩)
      · subst e
        have : t = [] := List.eq_nil_of_length_eq_zero (by rw [r2.length]; rfl)
        subst this
        exact Run.done k hc (by simp only [RV, Rep, List.append_nil]; exact ⟨p, vs, rfl, hp, r1⟩)
      · obtain ⟨le, hc2, rr⟩ := new_tup hl hc (r1.append r2)
        exact k _ _ _ le hc2 rr
    | _ => exact k.elim
  | ref a =>
    cases y with
    | ref b =>
      simp only [o_add] at k
      split at k
      · rename_i s t e1 e2
        obtain ⟨hl, k⟩ := Run.ite k
        obtain ⟨p, vs, _, rfl, hp, r1⟩ := lst_at hc rx e1
        obtain ⟨q, us, _, rfl, hq, r2⟩ := lst_at hc ry e2
        refine .inr (.inr ⟨p, q, vs, us, rfl, rfl, hp, hq, by rw [← r1.length, ← r2.length, size_lim]; exact hl, fun l hl => ?_⟩)
        obtain ⟨le, hc2, rr⟩ := new_lst hl hc (r1.append r2)
        exact k _ _ _ le hc2 rr
      · exact k.elim
    | _ => exact k.elim
  | _ => cases y <;> exact k.elim
theorem s_sub : O2S W o_sub (rI0 fun i j => .int (i - j)) := by
  intro E α H h x y v w Q hc rx ry k
  cases x with
  | int i =>
    cases y with
    | int j => exact ⟨i, j, of_int rx, of_int ry, Run.done k hc r_int⟩
    | _ => exact k.elim
  | _ => cases y <;> exact k.elim
/-- times -/
abbrev rMulS : R2 := fun x y H Q => ∃ s j, x = .str s ∧ y = .int j ∧ ((j = 0 ∧ Q (.str (toStr [])) H) ∨ (j = 1 ∧ Q (.str s) H))
theorem op_mulS {X : Cx} : OpR X (binaryOp .Mult) rMulS := by
  intro pins st σ H x y v u Q I rx ry h
  obtain ⟨s, j, rfl, rfl, q⟩ := h
  obtain ⟨t, rfl⟩ := rx
  obtain ⟨t2, rfl⟩ := ry
  rcases q with ⟨rfl, q⟩ | ⟨rfl, q⟩
  · exact PySem.P.mul_str_none (by decide) (by decide) ⟨.str (toStr []), H, I.tok _, ⟨_, rfl⟩, q⟩
  · refine PySem.P.mul_str (by decide) (fun _ z => by simp at z) (fun _ z => by simp at z) ?_
    rw [if_neg (by decide), if_pos (by simp)]
    exact ⟨.str s, H, I, ⟨_, rfl⟩, q⟩
theorem op_mulAll {X : Cx} : OpR X (binaryOp .Mult) (fun x y H Q => rI CMul (fun i j => .int (i * j)) x y H Q ∨ rMulS x y H Q) := op_mul.or op_mulS
theorem s_mul : O2S W o_mul (fun x y H Q => rI CMul (fun i j => .int (i * j)) x y H Q ∨ rMulS x y H Q) := by
  intro E α H h x y v w Q hc rx ry k
  cases x with
  | int i =>
    cases y with
    | int j =>
      simp only [o_mul] at k
      obtain ⟨hl, k⟩ := Run.ite k
      refine .inl ⟨i, j, of_int rx, of_int ry, ?_, Run.done k hc r_int⟩
      show CMul i j
      unfold CMul
      rcases hl with hl | hl
      · left; simp only [BIG] at hl; omega
      · right; simp only [BIG] at hl; omega
    | _ => exact k.elim
  | str s =>
    cases y with
    | int j =>
      simp only [o_mul] at k
      by_cases h0 : j = 0
      · rw [if_pos h0] at k
        exact .inr ⟨_, _, of_str rx, of_int ry, .inl ⟨h0, Run.done k hc (r_str okT.nil)⟩⟩
      · rw [if_neg h0] at k
        obtain ⟨h1, k⟩ := Run.ite k
        exact .inr ⟨_, _, of_str rx, of_int ry, .inr ⟨h1, Run.done k hc (r_str (ok_str rx))⟩⟩
    | _ => exact k.elim
  | _ => cases y <;> exact k.elim
theorem s_mod : O2S W o_mod (rI (fun _ j => 0 < j) fun i j => .int (i % j)) := by
  intro E α H h x y v w Q hc rx ry k
  cases x with
  | int i =>
    cases y with
    | int j =>
      simp only [o_mod] at k
      obtain ⟨hl, k⟩ := Run.ite k
      exact ⟨i, j, of_int rx, of_int ry, hl, Run.done k hc r_int⟩
    | _ => exact k.elim
  | _ => cases y <;> exact k.elim
theorem s_fdiv : O2S W o_fdiv (rI CDiv fun i j => .int (i / j)) := by
  intro E α H h x y v w Q hc rx ry k
  cases x with
  | int i =>
    cases y with
    | int j =>
      simp only [o_fdiv] at k
      obtain ⟨hl, k⟩ := Run.ite k
      exact ⟨i, j, of_int rx, of_int ry, hl, Run.done k hc r_int⟩
    | _ => exact k.elim
  | _ => cases y <;> exact k.elim
abbrev CPowW (i j : Int) : Prop := 0 ≤ j ∧ (Builtin.Int.intBits i : Int) * j ≤ 2 ^ 27
theorem op_powW {X : Cx} : OpR X (binaryOp .Pow) (rI CPowW fun i j => .int (i ^ j.toNat)) := opI fun _ _ _ _ _ _ _ hc q => pow_int hc.1 hc.2 q
theorem s_pow : O2S W o_pow (rI CPowW fun i j => .int (i ^ j.toNat)) := by
  intro E α H h x y v w Q hc rx ry k
  cases x with
  | int i =>
    cases y with
    | int j =>
      simp only [o_pow] at k
      obtain ⟨⟨h1, h2, h3⟩, k⟩ := Run.ite k
      refine ⟨i, j, of_int rx, of_int ry, ⟨h1, ?_⟩, Run.done k hc r_int⟩
      have hb : Builtin.Int.intBits i ≤ 4096 := by
        unfold Builtin.Int.intBits
        split <;> omega
      have : (Builtin.Int.intBits i : Int) * j ≤ 4096 * 1000 := Int.mul_le_mul (by omega) h2 h1 (by omega)
      exact Int.le_trans this (by decide)
    | _ => exact k.elim
  | _ => cases y <;> exact k.elim
theorem s_neg : O1S W o_neg (rU fun i => .int (-i)) := by
  intro E α H h x v Q hc rx k
  cases x with
  | int i => exact ⟨i, of_int rx, Run.done k hc r_int⟩
  | _ => exact k.elim
/-! order -/
abbrev rLtS : R2 := fun x y H Q => ∃ i j, x = .str i ∧ y = .str j ∧ Q (.bl (decide (i.cps.toList < j.cps.toList))) H
theorem op_ltAll {X : Cx} : OpR X (compareOp .Lt) (fun x y H Q => rIntB (fun i j => decide (i < j)) x y H Q ∨ rLtS x y H Q) := op_lt.or op_lt_str
theorem s_lt : O2S W o_lt (fun x y H Q => rIntB (fun i j => decide (i < j)) x y H Q ∨ rLtS x y H Q) := by
  intro E α H h x y v w Q hc rx ry k
  cases x with
  | int i =>
    cases y with
    | int j => exact .inl ⟨i, j, of_int rx, of_int ry, Run.done k hc r_bl⟩
    | _ => exact k.elim
  | str s =>
    cases y with
    | str t => exact .inr ⟨_, _, of_str rx, of_str ry, Run.done k hc r_bl⟩
    | _ => exact k.elim
  | _ => cases y <;> exact k.elim
theorem s_le : O2S W o_le (rIntB fun i j => decide (i ≤ j)) := by
  intro E α H h x y v w Q hc rx ry k
  cases x with
  | int i =>
    cases y with
    | int j => exact ⟨i, j, of_int rx, of_int ry, Run.done k hc r_bl⟩
    | _ => exact k.elim
  | _ => cases y <;> exact k.elim
theorem s_gt : O2S W o_gt (rIntB fun i j => decide (j < i)) := by
  intro E α H h x y v w Q hc rx ry k
  cases x with
  | int i =>
    cases y with
    | int j => exact ⟨i, j, of_int rx, of_int ry, Run.done k hc r_bl⟩
    | _ => exact k.elim
  | _ => cases y <;> exact k.elim
theorem s_ge : O2S W o_ge (rIntB fun i j => decide (j ≤ i)) := by
  intro E α H h x y v w Q hc rx ry k
  cases x with
  | int i =>
    cases y with
    | int j => exact ⟨i, j, of_int rx, of_int ry, Run.done k hc r_bl⟩
    | _ => exact k.elim
  | _ => cases y <;> exact k.elim
abbrev rIsN : R2 := fun x y H Q => y = .non ∧ Q (.bl (decide (x = .non))) H
abbrev rNotN : R2 := fun x y H Q => y = .non ∧ Q (.bl (!decide (x = .non))) H
theorem rep_non {K : PySem.W.Frag} {α : List Addr} {H : Hp} {x : D} {v : V} (r : Rep K α H x v) : decide (v = .non) = decide (x = .non) := by
  cases x with
  | non => rw [of_non r]; rfl
  | bl b => rw [of_bl r]; rfl
  | int i => rw [of_int r]; rfl
  | str s => rw [of_str r]; rfl
  | tup ds => obtain ⟨p, vs, rfl, _⟩ := of_tup r; rfl
  | frz ds => obtain ⟨p, vs, rfl, _⟩ := of_frz r; rfl
  | ref k => obtain ⟨a, _, rfl⟩ := of_ref r; rfl
theorem s_is : O2S W o_is rIsN := by
  intro E α H h x y v w Q hc rx ry k
  cases y with
  | non => exact ⟨of_non ry, by rw [rep_non rx]; exact Run.done k hc r_bl⟩
  | _ => exact k.elim
theorem s_isnot : O2S W o_isnot rNotN := by
  intro E α H h x y v w Q hc rx ry k
  cases y with
  | non => exact ⟨of_non ry, by rw [rep_non rx]; exact Run.done k hc r_bl⟩
  | _ => exact k.elim
end
/-! == by data -/
mutual
def PD.to : PD → PyData
  | .none => .none
  | .bool b => .bool b
  | .int i => .int i
  | .str s => .str (toStr s)
  | .list xs => .list (PD.tos xs)
  | .tuple xs => .tuple (PD.tos xs)
def PD.tos : List PD → List PyData
  | [] => []
  | d :: ds => PD.to d :: PD.tos ds
end
theorem toStr_inj {s t : Txt} : (toStr s == toStr t) = (s == t) := by
  by_cases e : s = t
  · subst e; simp
  · have : toStr s ≠ toStr t := fun q => e (by have := congrArg (fun z : Str => z.cps.toList) q; simpa using this)
    rw [beq_eq_false_iff_ne.mpr this, beq_eq_false_iff_ne.mpr e]
mutual
theorem PD.eqv_to : ∀ a b : PD, PyData.eqv (PD.to a) (PD.to b) = PD.eqv a b
  | .none, b => by cases b <;> simp [PD.to, PyData.eqv, PD.eqv]
  | .bool x, b => by cases b <;> simp [PD.to, PyData.eqv, PD.eqv]
  | .int x, b => by cases b <;> simp [PD.to, PyData.eqv, PD.eqv]
  | .str x, b => by
    cases b with
    | str y => simp only [PD.to, PyData.eqv, PD.eqv, toStr_inj]
    | _ => simp [PD.to, PyData.eqv, PD.eqv]
  | .list x, b => by
    cases b with
    | list y => simp only [PD.to, PyData.eqv, PD.eqv, PD.eqvs_to x y]
    | _ => simp [PD.to, PyData.eqv, PD.eqv]
  | .tuple x, b => by
    cases b with
    | tuple y => simp only [PD.to, PyData.eqv, PD.eqv, PD.eqvs_to x y]
    | _ => simp [PD.to, PyData.eqv, PD.eqv]
theorem PD.eqvs_to : ∀ a b : List PD, PyData.eqvAll (PD.tos a) (PD.tos b) = PD.eqvs a b
  | [], b => by cases b <;> simp [PD.tos, PyData.eqvAll, PD.eqvs]
  | x :: xs, b => by
    cases b with
    | nil => simp [PD.tos, PyData.eqvAll, PD.eqvs]
    | cons y ys => simp only [PD.tos, PyData.eqvAll, PD.eqvs, PD.eqv_to x y, PD.eqvs_to xs ys]
end
theorem strOk_to {s : Txt} (o : okT s) : PyData.strOk (toStr s) = true := by
  unfold PyData.strOk
  simp only [List.all_toArray', List.all_eq_true, decide_eq_true_eq, Array.all_eq_true']
  intro x hx
  exact o x (by simpa using hx)
section
variable {W : Wd} {α : List Addr} {H : Hp} {h : IR.Heap}
theorem mapO_reads (hc : HCorr W α h H) {n : Nat} (ih : ∀ d v p, Rep W.K α H d v → rd h n d = some p → Dp W.K H v p.to ∧ p.to.depth ≤ n ∧ p.to.canLay0 = true) : ∀ {ds : List D} {vs : List V} {ps : List PD}, Reps W.K α H ds vs → mapO (rd h n) ds = some ps → DpAll W.K H vs (PD.tos ps) ∧ PyData.depthAll (PD.tos ps) ≤ n ∧ PyData.canLayAll0 (PD.tos ps) = true
  | [], vs, ps, r, e => by
    simp only [Reps] at r; subst r
    simp only [mapO] at e; cases e
    exact ⟨.nil, by simp [PD.tos, PyData.depthAll], by simp [PD.tos, PyData.canLayAll0]⟩
  | d :: ds, vs, ps, r, e => by
    simp only [Reps] at r
    obtain ⟨v, r', rfl, q, t⟩ := r
    simp only [mapO] at e
    split at e
    · rename_i b bs e1 e2
      cases e
      obtain ⟨x1, x2, x3⟩ := ih d v b q e1
      obtain ⟨y1, y2, y3⟩ := mapO_reads hc ih t e2
      refine ⟨.cons x1 y1, ?_, by simp only [PD.tos, PyData.canLayAll0, x3, y3, Bool.and_self]⟩
      simp only [PD.tos, PyData.depthAll]
      omega
    · cases e
theorem rd_reads (hc : HCorr W α h H) : ∀ (n : Nat) (d : D) (v : V) (p : PD), Rep W.K α H d v → rd h n d = some p → Dp W.K H v p.to ∧ p.to.depth ≤ n ∧ p.to.canLay0 = true
  | 0, d, v, p, r, e => by cases e
  | n + 1, d, v, p, r, e => by
    have ih := rd_reads hc n
    cases d with
    | non => rw [of_non r]; cases e; exact ⟨.non, by simp [PD.to, PyData.depth], by simp [PD.to, PyData.canLay0]⟩
    | bl b => rw [of_bl r]; cases e; exact ⟨.bl b, by simp [PD.to, PyData.depth], by simp [PD.to, PyData.canLay0]⟩
    | int i => rw [of_int r]; cases e; exact ⟨.int i, by simp [PD.to, PyData.depth], by simp [PD.to, PyData.canLay0]⟩
    | str s => rw [of_str r]; cases e; exact ⟨.str _, by simp [PD.to, PyData.depth], by simp only [PD.to, PyData.canLay0]; exact strOk_to (ok_str r)⟩
    | tup ds =>
      obtain ⟨a, vs, rfl, ht, rr⟩ := of_tup r
      simp only [rd] at e
      cases e2 : mapO (rd h n) ds with
      | none => rw [e2] at e; cases e
      | some ps =>
        rw [e2] at e; cases e
        obtain ⟨x1, x2, x3⟩ := mapO_reads hc ih rr e2
        exact ⟨.tup ht x1, by simp only [PD.to, PyData.depth]; omega, by simp only [PD.to, PyData.canLay0]; exact x3⟩
    | frz ds =>
      obtain ⟨a, vs, rfl, ht, rr⟩ := of_frz r
      simp only [rd] at e
      cases e2 : mapO (rd h n) ds with
      | none => rw [e2] at e; cases e
      | some ps =>
        rw [e2] at e; cases e
        obtain ⟨x1, x2, x3⟩ := mapO_reads hc ih rr e2
        exact ⟨.lst ht.sql x1, by simp only [PD.to, PyData.depth]; omega, by simp only [PD.to, PyData.canLay0]; exact x3⟩
    | ref k =>
      simp only [rd] at e
      split at e
      · rename_i ds e1
        obtain ⟨a, vs, _, rfl, hp, rr⟩ := lst_at hc r e1
        cases e2 : mapO (rd h n) ds with
        | none => rw [e2] at e; cases e
        | some ps =>
          rw [e2] at e; cases e
          obtain ⟨x1, x2, x3⟩ := mapO_reads hc ih rr e2
          exact ⟨.lst (SqL.of hp) x1, by simp only [PD.to, PyData.depth]; omega, by simp only [PD.to, PyData.canLay0]; exact x3⟩
      · cases e
theorem shaped_to {p : PD} (hd : p.to.depth ≤ DEEP) (hl : p.to.canLay0 = true) : SeqAt.shaped p.to = true := by
  unfold SeqAt.shaped
  rw [hl, Bool.true_and]
  exact decide_eq_true (by simp only [DEEP] at hd; omega)
theorem eqD_reads (hc : HCorr W α h H) {x y : D} {v w : V} {b : Bool} (rx : Rep W.K α H x v) (ry : Rep W.K α H y w) (e : eqD h x y = some b) :
    ∃ d e, Dp W.K H v d ∧ Dp W.K H w e ∧ SeqAt.shaped d = true ∧ SeqAt.shaped e = true ∧ PyData.eqv d e = b := by
  unfold eqD at e
  split at e
  · rename_i p q e1 e2
    cases e
    obtain ⟨x1, x2, x3⟩ := rd_reads hc DEEP x v p rx e1
    obtain ⟨y1, y2, y3⟩ := rd_reads hc DEEP y w q ry e2
    exact ⟨_, _, x1, y1, shaped_to x2 x3, shaped_to y2 y3, PD.eqv_to p q⟩
  · cases e
theorem s_eq : O2S W o_eq (rEqD W.K) := by
  intro E α H h x y v w Q hc rx ry k
  obtain ⟨b, e, k⟩ := Run.lift k
  obtain ⟨d, e', x1, y1, s1, s2, e3⟩ := eqD_reads hc rx ry e
  exact ⟨d, e', x1, y1, s1, s2, by rw [e3]; exact Run.done k hc r_bl⟩
theorem s_ne : O2S W o_ne (rNeD W.K) := by
  intro E α H h x y v w Q hc rx ry k
  obtain ⟨b, e, k⟩ := Run.lift k
  obtain ⟨d, e', x1, y1, s1, s2, e3⟩ := eqD_reads hc rx ry e
  exact ⟨d, e', x1, y1, s1, s2, by rw [e3]; exact Run.done k hc r_bl⟩
end
end IR
end

section
set_option Elab.async false
set_option linter.all false
set_option autoImplicit false
set_option maxRecDepth 100000
set_option maxHeartbeats 4000000
/-! defs that know that no repr is under way; calls -/
namespace IR
open PySem PySem.Spec PyProof.Rows L2
abbrev NoG (A : Around) : Prop := A.guards = some []
structure FnG (P : Program) (w : World) (K : PySem.W.Frag) (mg : Str → Option Value) (base : PySem.Heap) (k : Nat) (f : Addr) (fd : FuncData) (ps : List Str) (sp : Sp) : Prop where
  len : ∀ zs H Q E, sp zs H Q E → zs.length = ps.length
  run : ∀ (A : Around) (outer : List PySem.Env) (s : Shared) (H : Hp) (as : Args) (us : List Value) (zs : List V) (Q : VK) (E : XK),
    Room k A → NoG A → Env0 P w K mg base A outer s H → BindsTo s fd as (ps.zip us) → Vals zs us → sp zs H Q E →
    codeAny (model P w) A (Code.call (.ref f) as) (CR (L2.CX P w) outer P w H s Q E) s
section
variable {P : Program} {w : World} {K : PySem.W.Frag} {mg : Str → Option Value} {base : PySem.Heap}
theorem FnG.mono {j k : Nat} {f : Addr} {fd : FuncData} {ps : List Str} {sp : Sp} (F : FnG P w K mg base j f fd ps sp) (h : j ≤ k) : FnG P w K mg base k f fd ps sp :=
  ⟨F.len, fun A o s H as us zs Q E r g e b v q => F.run A o s H as us zs Q E (r.mono h) g e b v q⟩
theorem FnG.none {k : Nat} {f : Addr} {fd : FuncData} {ps : List Str} {sp : Sp} (h : ∀ zs H Q E, ¬ sp zs H Q E) : FnG P w K mg base k f fd ps sp :=
  ⟨fun _ _ _ _ q => (h _ _ _ _ q).elim, fun _ _ _ _ _ _ _ _ _ _ _ _ _ _ q => (h _ _ _ _ q).elim⟩
theorem deeper_g {A : Around} {env : PySem.Env} (g : NoG A) : NoG (A.deeper env) := g
/-- a def by its body -/
theorem fnG_of {k : Nat} {f : Addr} {nm ql : Str} {pr : Arguments} {bd : List Stmt} {sc : Scope} {dV kV dc pm cdv ct oc : Value} {an od : Option Addr} {osl : Array (Option Value)} {N ps : List Str} {sp : Sp}
    (lk : K.lookup f = some ⟨oc, od, .func (PySem.W.fnOf nm ql pr bd sc dV kV dc pm an cdv ct), osl⟩) (hcd : PySem.W.codeIn K cdv ql = true) (S : FnScope N ps sc)
    (len : ∀ zs H Q E, sp zs H Q E → zs.length = ps.length)
    (hb : ∀ (A : Around) (outer : List PySem.Env) (s : Shared) (H : Hp) (zs : List V) (Q : VK) (E : XK), Room k (A.deeper (envOfC ql sc s.heap.objs.size f cdv)) → NoG A → sp zs H Q E →
      ∃ t, PSs (cxOf (L2.CX P w) P w K mg base N ql sc f cdv A outer s H E) bd t ∧ t { nx := fun _ H' => Q .non H', rt := Q } (start N zs) H) :
    FnG P w K mg base (k + 1) f (PySem.W.fnOf nm ql pr bd sc dV kV dc pm an cdv ct) ps sp := by
  refine ⟨len, fun A outer s H as us zs Q E hr hg e0 bb r hsp => ?_⟩
  have hl : zs.length = ps.length := len _ _ _ _ hsp
  have inK : K.In s.heap := e0.mod.kin.keeps fun b o z => (e0.bs b o z).1
  have nolim : s.heap.NoLimit := e0.mod.nolimit.keeps fun b o z => (e0.bs b o z).1
  have kinds : ∀ y ∈ ps.zip us, sc.names.lookup y.1 = some .local ∨ (sc.names.lookup y.1 = some .cell ∧ ((cellsFrom (s.heap.objs.size + 1) sc.names []).lookup y.1).isSome = true) := by
    rintro ⟨n, v⟩ hy
    cases S.par n (List.of_mem_zip hy).1 with
    | inl q => exact .inl q
    | inr q => exact .inr ⟨q, PySem.W.cellsFrom_some _ _ _ (.inl q)⟩
  refine codeAny_call_function hr.depth (inK _ _ lk) rfl S.co S.gen rfl (PySem.W.codeRec_of inK hcd) (bb _ _ _ _ ?_)
  refine wpAny_newFunctionEnv_cells S.kind kinds fun env he s1 x => ?_
  subst he
  refine ⟨nolim.keeps x.toInCall.keep, codeAny_func ?_⟩
  obtain ⟨t, ht, hq⟩ := hb A outer s H zs Q E (hr.deeper _) hg hsp
  have I : L2.Inv (cxOf (L2.CX P w) P w K mg base N ql sc f cdv A outer s H E) [] (start N zs) H s1 := inv_start S hr.hd e0 hl r x
  refine wpAny_mono (ht.run [] s1 (start N zs) H _ I hq) (fun fl s' hs => ?_) fun _ _ z => z
  have fin : ∀ {σ' : L2.St} {H' : Hp} {v : V} {u : Value}, L2.Inv (cxOf (L2.CX P w) P w K mg base N ql sc f cdv A outer s H E) [] σ' H' s' → RelV v u → Q v H' → CE outer P w H s Q u s' := by
    intro σ' H' v u J rv q
    exact ⟨v, H', J.os, J.bare, J.base, J.hok, rv, q⟩
  cases fl with
  | ret u => obtain ⟨v, σ', H', J, rv, q⟩ := hs; exact fin J rv q
  | next => obtain ⟨σ', H', J, q⟩ := hs; exact fin (v := V.non) (u := Value.none) J rfl q
  | brk => obtain ⟨_, _, _, q⟩ := hs; exact q.elim
  | cont => obtain ⟨_, _, _, q⟩ := hs; exact q.elim
end

/-- what a def promises: what the small semantics says -/
def spG (W : Wd) (g : OL) : Sp := fun zs H Q E => ∃ α ds h, HCorr W α h H ∧ Reps W.K α H ds zs ∧ Run W (RV W) E α H Q (g ds h)

section
variable {X : Cx} {W : Wd} {Wx : WX} {k : Nat} {f C : Addr} {fd : FuncData} {ps : List Str} {g : OL} {pins : List (Addr × Obj)} {σ : L2.St} {H : Hp} {s : Shared} {Q : VK} {us : List Value} {zs : List V}
theorem run_g {sp : Sp} {E : XK} (F : FnG X.prog X.w X.K X.mg X.base k f fd ps sp) (hr : Room k X.A) (hg : NoG X.A) (hb : Binds X.K fd ps []) (hx : PassesAt (L2.CX X.prog X.w) X σ E) (I : L2.Inv X pins σ H s) (r : Vals zs us) (h : sp zs H Q E) :
    wpAny (model X.prog X.w) X.A (call (.ref f) us) (EP X pins σ Q) X.xe s := by
  have hl : (us ++ []).length = ps.length := by rw [List.append_nil, ← r.length]; exact F.len _ _ _ _ h
  have bb := hb s us I.kIn hl
  rw [List.append_nil] at bb
  refine wpAny_call (codeAny_mono (F.run X.A X.stack s H ⟨us, []⟩ us zs Q E hr hg I.env0 bb r h) fun r s' hq => ?_)
  cases r with
  | error e => exact hx pins H s e s' I hq
  | ok fl =>
    cases fl with
    | ret u => exact I.after hq
    | next => exact hq.elim
    | brk => exact hq.elim
    | cont => exact hq.elim
variable {x m : Str} {p pos apos : Pos} {e o : Expr} {es : List Expr} {ga : SA} {fo : SE}
/-- what is known of a def: where it stands, its promise -/
structure DefOk (X : Cx) (W : Wd) (k : Nat) (x : Str) (f : Addr) (fd : FuncData) (ps : List Str) (g : OL) : Prop where
  fn : FnG X.prog X.w X.K X.mg X.base k f fd ps (spG W g)
  at_ : X.mg x = some (.ref f)
  kp : PySem.W.keepIn X.K (.ref f) = true
  bd : Binds X.K fd ps []
theorem q_call (F : FnG X.prog X.w X.K X.mg X.base k f fd ps (spG W g)) (at_ : X.mg x = some (.ref f)) (kp : PySem.W.keepIn X.K (.ref f) = true) (bd : Binds X.K fd ps []) (tk : Takes X Wx) (hr : Room k X.A) (hn : NoG X.A) (ha : PA X (e :: es) (semA W Wx ga)) (hg : Gl X x := by rfl)
    (hdb : (x == ("__debug__" : Str)) = false := by decide) (he : starEach (e :: es) X.env = (false, eval e X.env) :: starEach es X.env := by rfl) (hpl : (backTo pos (starEach es X.env)).any (·.1) = false := by rfl) :
    PE X (.Call (.Name x p) (e :: es) [] pos) (semE W Wx (e_call g ga)) := by
  refine ⟨fun pins s σ H Q I h => wpAny_Call_Name_kw (ld_glob I hg at_ ?_ hdb)⟩
  have h' : semA W Wx ga σ H fun zs H1 => spG W g zs H1 Q (WE Wx σ) := bindG (g := fun env xs h1 => g xs h1) h fun α env xs h1 vs H1 c rx k => ⟨α, xs, h1, c.hc, rx, k⟩
  refine PySem.W.callWith_K (h₀ := X.base) I.ok.mod.kin kp (thn (ha.run pos pins s σ H _ I h') fun us s1 ⟨zs, H1, I1, r, q⟩ => ⟨I1.kIn, ?_⟩) he hpl
  exact run_g F hr hn bd (passAt tk σ) I1 r q
theorem q_call0 (F : FnG X.prog X.w X.K X.mg X.base k f fd ps (spG W g)) (at_ : X.mg x = some (.ref f)) (kp : PySem.W.keepIn X.K (.ref f) = true) (bd : Binds X.K fd ps []) (tk : Takes X Wx) (hr : Room k X.A) (hn : NoG X.A) (hg : Gl X x := by rfl)
    (hdb : (x == ("__debug__" : Str)) = false := by decide) : PE X (.Call (.Name x p) [] [] pos) (semE W Wx (e_call g a_nil)) := by
  refine ⟨fun pins s σ H Q I h => wpAny_Call_Name_kw (ld_glob I hg at_ ?_ hdb)⟩
  obtain ⟨α, env, h0, c, k⟩ := h
  exact PySem.W.callWith_K0 I.kIn kp (run_g F hr hn bd (passAt tk σ) I .nil ⟨α, [], h0, c.hc, by simp only [Reps], k⟩)
/-! instances -/
/-- a class of instances -/
structure ClsOk (W : Wd) (c : Nat) : Prop where
  cl : Cls W.K (W.cl c)
  cc : PySem.W.findIn W.K (.ref (W.cl c)) (Str.ofString "__class__") = some (some (.builtin "object.__class__"))
  cg : PySem.W.specialIn W.K (.builtin "object.__class__") (Str.ofString "__get__") = some (some (.builtin "getset_descriptor.__get__"))
  ct : PySem.W.takesIn W.K (.builtin "object.__class__") = some true
  co : PySem.W.mroIn W.K (W.cl c) (.type "object") = some true
theorem fields_look (inj : ∀ a b, W.fld a = W.fld b → a = b) {f : String} {α : List Addr} : ∀ {fs : List (String × D)} {vs : List V} {d : D}, Reps W.K α H (fs.map (·.2)) vs → fs.lookup f = some d → ∃ v, (fields W fs vs).lookup (W.fld f) = some v ∧ Rep W.K α H d v
  | [], vs, d, r, e => by cases e
  | (g, y) :: fs, vs, d, r, e => by
    simp only [List.map_cons, Reps] at r
    obtain ⟨v, rs, rfl, rv, rr⟩ := r
    unfold fields
    simp only [List.map_cons, List.zip_cons_cons, List.lookup_cons]
    simp only [List.lookup_cons] at e
    by_cases hf : f = g
    · subst hf
      simp only [beq_self_eq_true] at e ⊢
      cases e
      exact ⟨v, rfl, rv⟩
    · have h1 : (f == g) = false := beq_eq_false_iff_ne.mpr hf
      have h2 : (W.fld f == W.fld g) = false := beq_eq_false_iff_ne.mpr fun z => hf (inj _ _ z)
      rw [h1] at e
      rw [h2]
      exact fields_look inj rr e
theorem fields_no (inj : ∀ a b, W.fld a = W.fld b → a = b) {f : String} : ∀ {fs : List (String × D)} {vs : List V}, fs.lookup f = none → (fields W fs vs).lookup (W.fld f) = none
  | [], vs, e => rfl
  | (g, y) :: fs, vs, e => by
    cases vs with
    | nil => rfl
    | cons v vs =>
      unfold fields
      simp only [List.map_cons, List.zip_cons_cons, List.lookup_cons]
      simp only [List.lookup_cons] at e
      by_cases hf : f = g
      · subst hf; simp at e
      · have h1 : (f == g) = false := beq_eq_false_iff_ne.mpr hf
        have h2 : (W.fld f == W.fld g) = false := beq_eq_false_iff_ne.mpr fun z => hf (inj _ _ z)
        rw [h1] at e
        rw [h2]
        exact fields_no inj e
/-- o.f -/
theorem q_fld {f : String} (hK : W.K = X.K) (inj : ∀ a b, W.fld a = W.fld b → a = b) (hcl : ∀ c, ClsOk W c) (hna : ∀ c, NoAttr W.K (W.cl c) (W.fld f)) (ho : PE X o (semE W Wx fo)) (hb : attributeBase o (W.fld f) X.env (eval o X.env) = eval o X.env := by rfl) : PE X (.Attribute o (W.fld f) pos) (semE W Wx (e_1 (o_fld f) fo)) :=
  (pe_fld ho hb).imp fun σ H Q q => bindG (g := fun env x h1 => o_fld f x h1) q fun α env x h1 v H1 c rx k => by
    simp only [o_fld] at k
    obtain ⟨d, e, k2⟩ := Run.lift1 k
    clear k
    unfold fldD at e
    cases x with
    | ref i =>
      simp only at e
      split at e
      · rename_i cc fs e1
        obtain ⟨a, ea, rfl⟩ := of_ref rx
        obtain ⟨dx, vs, hp, rr⟩ := c.hc.ob i _ a e1 ea
        obtain ⟨u, hu, ru⟩ := fields_look inj rr e
        exact ⟨a, W.cl cc, dx, _, u, rfl, hp, hK ▸ (hcl cc).cl, hK ▸ hna cc, hu, Run.done k2 c.hc ru⟩
      · cases e
    | _ => cases e
/-- C(..) -/
theorem fresh_ins {α : List Addr} {h : IR.Heap} {c : Nat} {y dx : Addr} (hc : HCorr W α h H) (hy : H y = none) (hd : H dx = none) (hne : dx ≠ y) :
    Le W.K α H (α ++ [y]) (upd (upd H dx (.own y)) y (.ins (W.cl c) dx [])) ∧ HCorr W (α ++ [y]) (h ++ [.ins c []]) (upd (upd H dx (.own y)) y (.ins (W.cl c) dx [])) ∧ Rep W.K (α ++ [y]) (upd (upd H dx (.own y)) y (.ins (W.cl c) dx [])) (.ref h.length) (.ref y) := by
  have k : ∀ q u, H q = some u → upd (upd H dx (.own y)) y (.ins (W.cl c) dx []) q = some u := fun q u z => by
    rw [upd_ne (ne_of_none z hy), upd_ne (ne_of_none z hd)]; exact z
  exact new_obj hy k hc ⟨dx, [], upd_same, by simp only [List.map_nil, Reps]⟩
theorem run_new {c : Nat} {α : List Addr} {h : IR.Heap} {ds : List D} {g : OL} {E : XK} (M : Mk X.K (W.cl c) f) (F : FnG X.prog X.w X.K X.mg X.base k f fd ps (spG W g)) (hr : Room (k + 1) X.A) (hn : NoG X.A) (bd : Binds X.K fd ps []) (hx : PassesAt (L2.CX X.prog X.w) X σ E) (I : L2.Inv X pins σ H s) (r : Vals zs us)
    (hc : HCorr W α h H) (rd : Reps W.K α H ds zs)
    (q : Run W (RV W) E α H Q ((g (.ref h.length :: ds) (h ++ [.ins c []])).bind fun v h1 => if v = .non then .ok (.ref h.length) h1 else .bad)) :
    wpAny (model X.prog X.w) X.A (call (.ref (W.cl c)) us) (EP X pins σ Q) X.xe s := by
  have fy := I.hok.fresh (Nat.le_succ s.heap.objs.size)
  have fd' := I.hok.fresh (Nat.le_refl s.heap.objs.size)
  have hne := Nat.ne_of_lt (Nat.lt_succ_self s.heap.objs.size)
  have I2 := Inv.made (C := W.cl c) I
  obtain ⟨le, hc2, rr⟩ := fresh_ins (c := c) hc fy fd' hne
  have hq : spG W g (V.ref (s.heap.objs.size + 1) :: zs) (upd (upd H s.heap.objs.size (.own (s.heap.objs.size + 1))) (s.heap.objs.size + 1) (.ins (W.cl c) s.heap.objs.size [])) (fun v H2 => v = .non ∧ Q (.ref (s.heap.objs.size + 1)) H2) E := by
    refine ⟨_, .ref h.length :: ds, _, hc2, by simp only [Reps]; exact ⟨_, _, rfl, rr, rd.mono le⟩, ?_⟩
    have q2 := Run.later q le
    cases e : g (.ref h.length :: ds) (h ++ [.ins c []]) with
    | bad => rw [e] at q2; exact q2
    | exc c1 d h' => rw [e] at q2; exact q2
    | ok v h1 =>
      rw [e] at q2
      simp only [Res.bind_ok] at q2
      obtain ⟨hv, q2⟩ := Run.ite q2
      subst hv
      exact fun α' H' u l hc' ru => ⟨of_non ru, q2 α' H' _ l hc' (rr.mono l)⟩
  have r2 : Vals (V.ref (s.heap.objs.size + 1) :: zs) (Value.ref (s.heap.objs.size + 1) :: us) := .cons rfl r
  have hl : (Value.ref (s.heap.objs.size + 1) :: us).length = ps.length := by rw [← r2.length]; exact F.len _ _ _ _ hq
  have bb := bd { s with heap := (s.heap.push PySem.W.emptyDict).push (PySem.W.instObj (W.cl c) s.heap.objs.size) } (Value.ref (s.heap.objs.size + 1) :: us) I2.kIn (by rw [List.append_nil]; exact hl)
  rw [List.append_nil] at bb
  refine wpAny_call (make_map (f := f) I.kIn M.makes M.init (beq_iff_eq.mp M.fn) (codeAny_mono (F.run _ X.stack _ _ ⟨Value.ref (s.heap.objs.size + 1) :: us, []⟩ _ _ _ E (hr.make (W.cl c) us []) ?_ (I2.env0.make (W.cl c) us []) bb r2 hq) fun r s' hq' => ?_))
  · show NoG _
    exact hn
  · cases r with
    | error e => exact hx pins _ _ e s' I2 hq'
    | ok fl =>
      cases fl with
      | ret u =>
        obtain ⟨v, H', I3, rv, ev, q3⟩ := I2.after hq'
        subst ev
        exact ⟨rv, ⟨V.ref (s.heap.objs.size + 1), H', I3, rfl, q3⟩⟩
      | next => exact hq'.elim
      | brk => exact hq'.elim
      | cont => exact hq'.elim
theorem q_new {c : Nat} {κ : Kap} {fn : Nat} (M : Mk X.K (W.cl c) f) (F : FnG X.prog X.w X.K X.mg X.base k f fd ps (spG W (κ.ini fn))) (hm : X.mg x = some (.ref (W.cl c))) (bd : Binds X.K fd ps []) (tk : Takes X Wx) (hr : Room (k + 1) X.A) (hn : NoG X.A) (ha : PA X (e :: es) (semA W Wx ga)) (hg : Gl X x := by rfl)
    (hdb : (x == ("__debug__" : Str)) = false := by decide) (he : starEach (e :: es) X.env = (false, eval e X.env) :: starEach es X.env := by rfl) (hpl : (backTo pos (starEach es X.env)).any (·.1) = false := by rfl) :
    PE X (.Call (.Name x p) (e :: es) [] pos) (semE W Wx (e_call (o_new κ c fn) ga)) := by
  refine ⟨fun pins s σ H Q I h => wpAny_Call_Name_kw (ld_glob I hg hm ?_ hdb)⟩
  have h' : semA W Wx ga σ H fun zs H1 => ∃ α ds h1, HCorr W α h1 H1 ∧ Reps W.K α H1 ds zs ∧ Run W (RV W) (WE Wx σ) α H1 Q (o_new κ c fn ds h1) :=
    bindG (g := fun env xs h1 => o_new κ c fn xs h1) h fun α env xs h1 vs H1 c rx k => ⟨α, xs, h1, c.hc, rx, k⟩
  refine PySem.W.callWith_K (h₀ := X.base) I.ok.mod.kin M.kp (thn (ha.run pos pins s σ H _ I h') fun us s1 ⟨zs, H1, I1, r, α, ds, h1, hc1, rd, q⟩ => ⟨I1.kIn, ?_⟩) he hpl
  exact run_new M F hr hn bd (passAt tk σ) I1 r hc1 rd q
end
end IR
end

section
set_option Elab.async false
set_option linter.all false
set_option autoImplicit false
set_option maxRecDepth 100000
set_option maxHeartbeats 4000000
/-! own classes: operators, comparisons -/
namespace IR
open PySem PySem.Spec PyProof.Rows L2
/-- an operator's answer -/
abbrev Tells (Q : Value → Shared → Prop) (r : Option Value) (s : Shared) : Prop := ∃ v, r = some v ∧ Q v s
section
variable {prog : Program} {w : World} {A : Around} {E : Value → Shared → Prop} {s : Shared} {K : PySem.W.Frag} {x y C f : Addr} {ox oy : Obj} {od oe : Option Obj} {nm : String}
/-- both of one class -/
theorem bin1_same {Q : Value → Shared → Prop} (X : K.In s.heap) (I : PySem.W.InstAt s.heap x ox C od) (J : PySem.W.InstAt s.heap y oy C oe) (hc : PySem.W.selfFirst K C = true)
    (hs : PySem.W.findIn K (.ref C) (PySem.dunder nm) = some (some (.ref f))) (hf : PySem.W.isFn K (.ref f) = true)
    (h : wpAny (model prog w) A (call (.ref f) [.ref x, .ref y]) (PySem.W.CmpBack Q) E s) : wpAny (model prog w) A (binaryOp1 nm (.ref x) (.ref y)) (Tells Q) E s := by
  obtain ⟨cd, rest, hcd, hm⟩ := PySem.W.ksp_first hc
  have one := PySem.W.ksp_try X I hs hf h
  obtain ⟨hh, g, d, tt, os⟩ := s
  have L1 : PySem.W.Looks (model prog w) hh (typeOf (.ref x)) (.ref C) := I.type
  have L2 : PySem.W.Looks (model prog w) hh (typeOf (.ref y)) (.ref C) := J.type
  have L3 : PySem.W.Looks (model prog w) hh (fillsNumberSlot (.ref C) nm) true := PySem.W.fills_K X hcd hm hs
  unfold binaryOp1
  refine wpAny_bind (L1.at (wpAny_bind (L2.at (wpAny_bind (L3.at ?_)))))
  simp only [beq_self_eq_true, if_true]
  ksp_lk
  refine wpAny_mono one (fun r s' hr' => ?_) fun _ _ e => e
  obtain ⟨v, rfl, hq⟩ := hr'
  ksp_lk
  exact ⟨v, rfl, hq⟩
/-- an own one on the left, a value of a built-in type on the right -/
theorem bin1_left {T : String} {b : Value} {fo ro rc : Option Value} {Q : Value → Shared → Prop} (X : K.In s.heap) (I : PySem.W.InstAt s.heap x ox C od) (hb : typeOf b = pure (.type T)) (hc : PySem.W.selfFirst K C = true)
    (hs : PySem.W.findIn K (.ref C) (PySem.dunder nm) = some (some (.ref f))) (hf : PySem.W.isFn K (.ref f) = true) (hr : PySem.W.findIn K (.ref C) (dunderR nm) = some rc) (hp : rc = none ∨ ∃ g : Addr, rc = some (.ref g))
    (h1 : PySem.W.findIn K (.type T) (PySem.dunder nm) = some fo) (h2 : PySem.W.findIn K (.type T) (dunderR nm) = some ro) (hsub : PySem.W.subIn K (.type T) (.ref C) = some false)
    (h : wpAny (model prog w) A (call (.ref f) [.ref x, b]) (PySem.W.CmpBack Q) E s) : wpAny (model prog w) A (binaryOp1 nm (.ref x) b) (Tells Q) E s := by
  obtain ⟨cd, rest, hcd, hm⟩ := PySem.W.ksp_first hc
  have one := PySem.W.ksp_try X I hs hf h
  obtain ⟨hh, g, d, tt, os⟩ := s
  have L1 : PySem.W.Looks (model prog w) hh (typeOf (.ref x)) (.ref C) := I.type
  have L2 : PySem.W.Looks (model prog w) hh (typeOf b) (.type T) := PySem.W.Looks.of_pure hb
  have L3 : PySem.W.Looks (model prog w) hh (fillsNumberSlot (.ref C) nm) true := PySem.W.fills_K X hcd hm hs
  have L4 : PySem.W.Looks (model prog w) hh (fillsNumberSlot (.type T) nm) ((fo.isSome && !isSeqSlot fo) || (ro.isSome && !isSeqSlot ro)) := PySem.W.ksp_fillsT X h1 h2
  have L5 : PySem.W.Looks (model prog w) hh (isSubtype (.type T) (.ref C)) false := PySem.W.looks_subIn X hsub
  have L6 : PySem.W.Looks (model prog w) hh (numberSlotInPython (.ref C) nm) true := PySem.W.ksp_inPy X hs hr hp
  have L7 : PySem.W.Looks (model prog w) hh (numberSlotInPython (.type T) nm) false := PySem.W.Looks.of_pure rfl
  have L8 : PySem.W.Looks (model prog w) hh (typeLookup (.type T) (dunderR nm)) ro := PySem.W.looks_findIn X h2
  generalize ((fo.isSome && !isSeqSlot fo) || (ro.isSome && !isSeqSlot ro)) = rt at L4
  have hne : (Value.ref C == Value.type T) = false := Bool.eq_false_iff.mpr fun q => by cases beq_iff_eq.mp q
  unfold binaryOp1
  refine wpAny_bind (L1.at (wpAny_bind (L2.at (wpAny_bind (L3.at ?_)))))
  simp only [hne, Bool.false_eq_true, if_false]
  cases rt with
  | false =>
    ksp_lk
    refine wpAny_mono one (fun r s' hr' => ?_) fun _ _ e => e
    obtain ⟨v, rfl, hq⟩ := hr'
    ksp_lk
    exact ⟨v, rfl, hq⟩
  | true =>
    ksp_lk
    refine wpAny_mono one (fun r s' hr' => ?_) fun _ _ e => e
    obtain ⟨v, rfl, hq⟩ := hr'
    ksp_lk
    exact ⟨v, rfl, hq⟩
/-- a value of a built-in type on the left, an own one on the right -/
theorem bin1_refl {T : String} {a : Value} {Q : Value → Shared → Prop} {g : Addr} (X : K.In s.heap) (J : PySem.W.InstAt s.heap y oy C oe) (hb : typeOf a = pure (.type T)) (hc : PySem.W.selfFirst K C = true)
    (hs : PySem.W.findIn K (.ref C) (PySem.dunder nm) = some (some (.ref g))) (hr : PySem.W.findIn K (.ref C) (dunderR nm) = some (some (.ref f))) (hf : PySem.W.isFn K (.ref f) = true)
    (h1 : PySem.W.findIn K (.type T) (PySem.dunder nm) = some none) (h2 : PySem.W.findIn K (.type T) (dunderR nm) = some none)
    (h : wpAny (model prog w) A (call (.ref f) [.ref y, a]) (PySem.W.CmpBack Q) E s) : wpAny (model prog w) A (binaryOp1 nm a (.ref y)) (Tells Q) E s := by
  obtain ⟨cd, rest, hcd, hm⟩ := PySem.W.ksp_first hc
  have one := PySem.W.ksp_try X J hr hf h
  obtain ⟨hh, g, d, tt, os⟩ := s
  have L1 : PySem.W.Looks (model prog w) hh (typeOf a) (.type T) := PySem.W.Looks.of_pure hb
  have L2 : PySem.W.Looks (model prog w) hh (typeOf (.ref y)) (.ref C) := J.type
  have L3 : PySem.W.Looks (model prog w) hh (fillsNumberSlot (.type T) nm) false := PySem.W.ksp_fillsT X h1 h2
  have L4 : PySem.W.Looks (model prog w) hh (fillsNumberSlot (.ref C) nm) true := PySem.W.fills_K X hcd hm hs
  have hne : (Value.type T == Value.ref C) = false := Bool.eq_false_iff.mpr fun q => by cases beq_iff_eq.mp q
  unfold binaryOp1
  refine wpAny_bind (L1.at (wpAny_bind (L2.at (wpAny_bind (L3.at ?_)))))
  simp only [hne, Bool.false_eq_true, if_false]
  ksp_lk
  refine wpAny_mono one (fun r s' hr' => ?_) fun _ _ e => e
  obtain ⟨v, rfl, hq⟩ := hr'
  ksp_lk
  exact ⟨v, rfl, hq⟩
theorem bin_of {op : Operator} {a b : Value} {Q : Value → Shared → Prop} (h : wpAny (model prog w) A (binaryOp1 op.info.2 a b) (Tells Q) E s) : wpAny (model prog w) A (binaryOp op a b) Q E s := by
  rcases hi : op.info with ⟨sym, nm'⟩
  rw [hi] at h
  simp only [binaryOp, hi]
  refine wpAny_holding (wpAny_bind (wpAny_mono h (fun r s' hr => ?_) fun _ _ e => e))
  obtain ⟨v, rfl, hq⟩ := hr
  exact wpAny_pure hq
/-- a class and object alone -/
def mro2 (K : PySem.W.Frag) (C : Addr) : Bool := (PySem.W.clsIn K C).any fun cd => cd.mro == [.ref C, .type "object"]
theorem fillsI_no {h : PySem.Heap} {add : Bool} (X : K.In h) (hc : mro2 K C = true) (h1 : PySem.W.findIn K (.ref C) (dunderI nm) = some none) (h2 : PySem.W.findIn K (.type "object") (dunderI nm) = some none) :
    PySem.W.Looks (model prog w) h (fillsInplaceSlot (.ref C) nm add) false := by
  obtain ⟨cd, hcd, hm⟩ := PySem.W.any_some hc
  have hm' := beq_iff_eq.mp hm
  intro A Q E s k q
  have Lm : PySem.W.Looks (model prog w) h (mroOf (.ref C)) cd.mro := (PySem.W.looks_clsIn X hcd).andThen (f := fun cd => pure cd.mro) .now
  have Lm' := Lm.keeps k
  obtain ⟨hh, g, d, tt, os⟩ := s
  have X' : K.In hh := X.keeps k
  have L1 : PySem.W.Looks (model prog w) hh (typeLookup (.ref C) (dunderI nm)) none := PySem.W.looks_findIn X' h1
  have L2 : PySem.W.Looks (model prog w) hh (typeLookup (.type "object") (dunderI nm)) none := PySem.W.looks_findIn X' h2
  unfold fillsInplaceSlot
  refine wpAny_bind (Lm'.at ?_)
  rw [hm', List.anyM_cons]
  refine wpAny_bind ?_
  refine wpAny_bind (L1.at ?_)
  refine wpAny_pure ?_
  simp only [Bool.false_eq_true, if_false]
  rw [List.anyM_cons]
  refine wpAny_bind ?_
  refine wpAny_bind (L2.at ?_)
  refine wpAny_pure ?_
  simp only [Bool.false_eq_true, if_false]
  rw [List.anyM_nil]
  exact wpAny_pure q
theorem inpl_of {op : Operator} {b : Value} {Q : Value → Shared → Prop} (X : K.In s.heap) (I : PySem.W.InstAt s.heap x ox C od) (hc : mro2 K C = true) (h1 : PySem.W.findIn K (.ref C) (dunderI op.info.2) = some none) (h2 : PySem.W.findIn K (.type "object") (dunderI op.info.2) = some none)
    (h : wpAny (model prog w) A (binaryOp1 op.info.2 (.ref x) b) (Tells Q) E s) : wpAny (model prog w) A (inplaceOp op (.ref x) b) Q E s := by
  unfold inplaceOp
  refine wpAny_holding (wpAny_bind (I.type.here (wpAny_bind ((fillsI_no X hc h1 h2).here ?_))))
  simp only [Bool.false_eq_true, if_false]
  refine wpAny_bind (wpAny_mono h (fun r s' hr => ?_) fun _ _ e => e)
  obtain ⟨v, rfl, hq⟩ := hr
  exact wpAny_pure hq
/-- abs(x) -/
theorem abs_own {Q : Value → Shared → Prop} (X : K.In s.heap) (I : PySem.W.InstAt s.heap x ox C od) (hs : PySem.W.findIn K (.ref C) (Str.ofString "__abs__") = some (some (.ref f))) (hf : PySem.W.isFn K (.ref f) = true)
    (h : wpAny (model prog w) A.in1 (call (.ref f) [.ref x]) Q E s) : wpAny (model prog w) A (call (.builtin "abs") [.ref x]) Q E s := by
  refine PySem.Calls.call_function_entry kind_abs plain_abs entry_abs (args_abs _) ?_
  unfold Builtin.«abs»
  refine wpAny_bind (m := oneArg "abs" _) (wpAny_pure ?_)
  refine wpAny_bind (m := callSpecial? (.ref x) (Str.ofString "__abs__")) (PySem.W.special_fn X I hs (beq_iff_eq.mp hf) (wpAny_mono h (fun r s' hr => ?_) fun _ _ y => y))
  exact wpAny_pure ⟨r, rfl, hr⟩
theorem type_bool' : isType (.type "bool") = pure true := by first | rfl | kernel_rfl
/-- bool(x) -/
theorem bool_own {Q : Value → Shared → Prop} (X : K.In s.heap) (I : PySem.W.InstAt s.heap x ox C od) (hs : PySem.W.findIn K (.ref C) (Str.ofString "__bool__") = some (some (.ref f))) (hf : PySem.W.isFn K (.ref f) = true)
    (h : wpAny (model prog w) A.in1.in1 (call (.ref f) [.ref x]) (fun r s1 => ∃ b, r = Value.bool b ∧ Q r s1) E s) : wpAny (model prog w) A (call (.type "bool") [.ref x]) Q E s := by
  refine callType_codes (T := "bool") (Bi := Builtin.«object.__init__») (Q₁ := fun r s1 => ∃ b, r = Value.bool b ∧ Q r s1) PySem.F.called_bool (PySem.F.typeCall_bool_1 _) PySem.F.entry_object_init ?_ ?_
  · refine codeAny_of_tree ?_
    show wpAny _ A.in1.in1 (do checkBuiltinCall "bool.__new__" ⟨[.type "bool", .ref x], []⟩; again (.builtin "bool.__new__" ⟨[.type "bool", .ref x], []⟩)) _ _ s
    refine wpAny_bind (wpAny_of_eq (PySem.F.newCall_bool_1 _) (wpAny_pure ⟨plainId_quiet (by decide +kernel) _, codeAny_builtin PySem.F.entry_bool_new ?_⟩))
    rw [Around.under_plainId (by decide +kernel) _]
    unfold Builtin.«bool.__new__»
    refine wpAny_bind (wpAny_of_eq (a := true) type_bool' ?_)
    refine PySem.W.KFB.if_not rfl ?_
    refine wpAny_bind (wpAny_of_eq (a := true) PySem.F.conv_sub_bool ?_)
    refine PySem.W.KFB.if_not rfl ?_
    have tr : wpAny (model prog w) A.in1.in1 (truthy (.ref x)) (fun b s1 => Q (.bool b) s1) E s := by
      unfold truthy
      refine wpAny_bind (m := callSpecial? (.ref x) (Str.ofString "__bool__")) (PySem.W.special_fn X I hs (beq_iff_eq.mp hf) (wpAny_mono h (fun r s' hr => ?_) fun _ _ y => y))
      obtain ⟨b, rfl, hq⟩ := hr
      exact wpAny_pure hq
    repeat (any_goals (first | assumption | (refine wpAny_bind (m := truthy (.ref x)) (wpAny_mono tr (fun b s' hb => ?_) fun _ _ y => y)) | wp_step))
    exact ⟨b, rfl, hb⟩
  · rintro obj s1 ⟨b, rfl, hq⟩
    exact ⟨rfl, PySem.F.args_object_init_2 _ _, object_init_meets PySem.F.called_bool.init.lookup PySem.F.called_bool.made (by decide) prog w A.in1 _ s1 ⟨rfl, rfl, hq⟩⟩
end
/-- an operator of a class, as the top has it -/
structure OpF (K : PySem.W.Frag) (C f : Addr) (nm : String) : Prop where
  self1 : PySem.W.selfFirst K C = true
  at_ : PySem.W.findIn K (.ref C) (PySem.dunder nm) = some (some (.ref f))
  fn : PySem.W.isFn K (.ref f) = true
  rv : ∃ rc, PySem.W.findIn K (.ref C) (dunderR nm) = some rc ∧ (rc = none ∨ ∃ g : Addr, rc = some (.ref g))
  s1 : ∃ fo, PySem.W.findIn K (.type "str") (PySem.dunder nm) = some fo
  s2 : ∃ ro, PySem.W.findIn K (.type "str") (dunderR nm) = some ro
  sub : PySem.W.subIn K (.type "str") (.ref C) = some false
structure OpRF (K : PySem.W.Frag) (C f : Addr) (nm : String) : Prop where
  self1 : PySem.W.selfFirst K C = true
  at_ : ∃ g : Addr, PySem.W.findIn K (.ref C) (PySem.dunder nm) = some (some (.ref g))
  rt : PySem.W.findIn K (.ref C) (dunderR nm) = some (some (.ref f))
  fn : PySem.W.isFn K (.ref f) = true
  s1 : PySem.W.findIn K (.type "str") (PySem.dunder nm) = some none
  s2 : PySem.W.findIn K (.type "str") (dunderR nm) = some none
/-- .. in place: by the plain one -/
structure OpIF (K : PySem.W.Frag) (C : Addr) (nm : String) : Prop where
  m2 : mro2 K C = true
  i1 : PySem.W.findIn K (.ref C) (dunderI nm) = some none
  i2 : PySem.W.findIn K (.type "object") (dunderI nm) = some none
section
variable {X : Cx} {W : Wd} {Wx : WX} {k k2 : Nat} {f f2 : Addr} {fd fd2 : FuncData} {ps ps2 : List Str} {σ : L2.St} {H : Hp} {s : Shared} {Q : VK} {pins : List (Addr × Obj)} {a b : Expr} {fa fb : SE} {pos : Pos} {α : List Addr} {h : IR.Heap} {E : XK}
theorem sem_2V {op : O2} (q : semE W Wx (e_2 op fa fb) σ H Q) : semE W Wx fa σ H fun v H1 => semE W Wx fb σ H1 fun w H2 => ∃ α h x y, HCorr W α h H2 ∧ Rep W.K α H2 x v ∧ Rep W.K α H2 y w ∧ Run W (RV W) (WE Wx σ) α H2 Q (op x y h) :=
  bindG (g := fun env x h1 => (fb env h1).bind fun y h2 => op x y h2) q fun α env x h1 v H1 c rx k => bindR (g := fun y h2 => op x y h2) c k fun α2 y h2 w H2 le c2 ry k2 => ⟨α2, h2, x, y, c2.hc, rx.mono le, ry, k2⟩
/-- an instance as the machine sees it -/
theorem ins_at {c : Nat} {x : D} {v : V} {u : Value} (hc : HCorr W α h H) (rx : Rep W.K α H x v) (e : clsD h x = some c) (I : L2.Inv X pins σ H s) (r : RelV v u) : ∃ a ox od, u = .ref a ∧ v = .ref a ∧ PySem.W.InstAt s.heap a ox (W.cl c) (some od) := by
  unfold clsD at e
  cases x with
  | ref k =>
    simp only at e
    split at e
    · rename_i c' fs e1
      cases e
      obtain ⟨a, ea, rfl⟩ := of_ref rx
      obtain ⟨dx, vs, hp, rr⟩ := hc.ob k _ a e1 ea
      obtain ⟨mA, O, _, _, _, _⟩ := ins_get I.hok hp
      obtain ⟨od, J, _⟩ := O.look
      cases (show u = Value.ref a from r)
      exact ⟨a, _, od, rfl, rfl, J⟩
    · cases e
  | _ => cases e
theorem back_ep {v : Value} {s' : Shared} (z : EP X pins σ Q v s') : PySem.W.CmpBack (EP X pins σ Q) v s' := by
  obtain ⟨z', H', I', rz, qz⟩ := z
  exact SlX.cmpback rz ⟨z', H', I', rz, qz⟩
/-- the operator's own call -/
theorem own_bin1 {nm : String} {c fn fr : Nat} {κ : Kap} {x y : D} {v w : V} {u t : Value} (hK : W.K = X.K) (O : OpF X.K (W.cl c) f nm) (F : FnG X.prog X.w X.K X.mg X.base k f fd ps (spG W (κ.fn fn))) (bd : Binds X.K fd ps [])
    (O2 : OpRF X.K (W.cl c) f2 nm) (F2 : FnG X.prog X.w X.K X.mg X.base k2 f2 fd2 ps2 (spG W (κ.fn fr))) (bd2 : Binds X.K fd2 ps2 [])
    (hx : PassesAt (L2.CX X.prog X.w) X σ E) (hr : Room k X.A) (hr2 : Room k2 X.A) (hn : NoG X.A) (I : L2.Inv X pins σ H s) (hc : HCorr W α h H) (rx : Rep W.K α H x v) (ry : Rep W.K α H y w) (ru : RelV v u) (rt : RelV w t)
    (q : Run W (RV W) E α H Q (o_own κ c fn fr x y h)) : wpAny (model X.prog X.w) X.A (binaryOp1 nm u t) (Tells (EP X pins σ Q)) X.xe s := by
  unfold o_own at q
  split at q
  · rename_i e1
    split at q
    · rename_i ok
      obtain ⟨a, ox, od, rfl, rfl, J⟩ := ins_at hc rx e1 I ru
      have go : wpAny (model X.prog X.w) X.A (call (.ref f) [.ref a, t]) (PySem.W.CmpBack (EP X pins σ Q)) X.xe s :=
        wpAny_mono (run_g (zs := [V.ref a, w]) F hr hn bd hx I (.cons rfl (.cons rt .nil)) ⟨α, [x, y], h, hc, by simp only [Reps]; exact ⟨_, _, rfl, rx, _, _, rfl, ry, rfl⟩, q⟩) (fun _ _ z => back_ep z) fun _ _ z => z
      cases y with
      | str z =>
        cases of_str ry
        obtain ⟨tk', rfl⟩ := rt
        obtain ⟨rc, r1, r2⟩ := O.rv
        obtain ⟨fo, h1⟩ := O.s1
        obtain ⟨ro, h2⟩ := O.s2
        exact bin1_left (T := "str") I.kIn J (by rfl) O.self1 O.at_ O.fn r1 r2 h1 h2 O.sub go
      | ref k =>
        simp only [okR, beq_iff_eq] at ok
        obtain ⟨b, oy, oe, rfl, rfl, J2⟩ := ins_at hc ry ok I rt
        exact bin1_same I.kIn J J2 O.self1 O.at_ O.fn go
      | _ => cases ok
    · exact q.elim
  · cases x with
    | str z =>
      simp only at q
      split at q
      · rename_i e2
        obtain ⟨b, oy, oe, rfl, rfl, J2⟩ := ins_at hc ry e2 I rt
        have rx' := rx
        cases of_str rx
        obtain ⟨tk', rfl⟩ := ru
        obtain ⟨g, hg⟩ := O2.at_
        refine bin1_refl (T := "str") I.kIn J2 (by rfl) O2.self1 hg O2.rt O2.fn O2.s1 O2.s2 ?_
        exact wpAny_mono (run_g (zs := [V.ref b, V.str (toStr z)]) F2 hr2 hn bd2 hx I (.cons rfl (.cons ⟨_, rfl⟩ .nil)) ⟨α, [y, .str z], h, hc, by simp only [Reps]; exact ⟨_, _, rfl, ry, _, _, rfl, rx', rfl⟩, q⟩) (fun _ _ z => back_ep z) fun _ _ z => z
      · exact q.elim
    | _ => exact q.elim
theorem q_own {op : Operator} {c fn fr : Nat} {κ : Kap} (hK : W.K = X.K) (O : OpF X.K (W.cl c) f op.info.2) (F : FnG X.prog X.w X.K X.mg X.base k f fd ps (spG W (κ.fn fn))) (bd : Binds X.K fd ps [])
    (O2 : OpRF X.K (W.cl c) f2 op.info.2) (F2 : FnG X.prog X.w X.K X.mg X.base k2 f2 fd2 ps2 (spG W (κ.fn fr))) (bd2 : Binds X.K fd2 ps2 [])
    (tk : Takes X Wx) (hr : Room k X.A) (hr2 : Room k2 X.A) (hn : NoG X.A) (ha : PE X a (semE W Wx fa)) (hb : PE X b (semE W Wx fb)) : PE X (.BinOp a op b pos) (semE W Wx (e_2 (o_own κ c fn fr) fa fb)) :=
  ⟨fun pins s σ H Q I hq => wpAny_BinOp (bin ha hb I (sem_2V hq) fun v u s2 x y H2 I2 rx ry q => by
    obtain ⟨α, h, dx, dy, hc, r1, r2, q⟩ := q
    exact bin_of (own_bin1 hK O F bd O2 F2 bd2 (passAt tk σ) hr hr2 hn I2 hc r1 r2 rx ry q))⟩
theorem noX_E {E E' : XK} {r : Res D} (q : Run W (RV W) E α H Q (noX r)) : Run W (RV W) E' α H Q r := by
  cases r with
  | ok b h1 => exact q
  | exc c d h' => exact q.elim
  | bad => exact q.elim
theorem pass00 : PassesAt (L2.CX X.prog X.w) X σ (fun _ _ _ => False) := fun pins H s e s' I c => by
  obtain ⟨_, _, _, _, _, _, _, _, _, _, _, _, z⟩ := c
  exact z.elim
/-- x op= e -/
theorem q_ownAug (i : Nat) {x : Str} {e : Expr} {op : Operator} {pos' : Pos} {c fn fr : Nat} {κ : Kap} (hN : X.N.Nodup) (hK : W.K = X.K) (IF : OpIF X.K (W.cl c) op.info.2) (O : OpF X.K (W.cl c) f op.info.2) (F : FnG X.prog X.w X.K X.mg X.base k f fd ps (spG W (κ.fn fn))) (bd : Binds X.K fd ps [])
    (O2 : OpRF X.K (W.cl c) f2 op.info.2) (F2 : FnG X.prog X.w X.K X.mg X.base k2 f2 fd2 ps2 (spG W (κ.fn fr))) (bd2 : Binds X.K fd2 ps2 [])
    (hr : Room k X.A) (hr2 : Room k2 X.A) (hn : NoG X.A) (he : PE X e (semE W Wx fa)) (hi : X.N[i]? = some x := by rfl) (hx : Loc X.env.scope x := by first | exact Or.inl rfl | exact Or.inr rfl) (hf : X.fn x = true ∨ X.env.scope.names.lookup x = some .local := by first | exact .inl rfl | exact .inr rfl | assumption) :
    PS X (.AugAssign (.Name x pos') op e pos) (semS W Wx (s_aug i (o_ownI κ c fn fr) fa)) := by
  have ip : PIp X op fun v w H Q => ∃ α h x y, HCorr W α h H ∧ Rep W.K α H x v ∧ Rep W.K α H y w ∧ Run W (RV W) (fun _ _ _ => False) α H Q (o_ownI κ c fn fr x y h) := by
    intro pins s σ H v w u t Q I ru rt q
    obtain ⟨α, h, dx, dy, hc, r1, r2, q⟩ := q
    unfold o_ownI at q
    split at q
    · rename_i e1
      obtain ⟨a, ox, od, rfl, rfl, J⟩ := ins_at hc r1 e1 I ru
      exact inpl_of I.kIn J IF.m2 IF.i1 IF.i2 (own_bin1 hK O F bd O2 F2 bd2 pass00 hr hr2 hn I hc r1 r2 ru rt (noX_E q))
    · exact q.elim
  refine (ps_aug hN hi hx he ip hf).imp fun De σ H q => ?_
  obtain ⟨α, env, h, c0, q⟩ := q
  simp only [s_aug] at q
  split at q
  · rename_i d0 e0
    obtain ⟨v0, ev, rv⟩ := c0.en i d0 e0
    refine ⟨v0, ev, ?_⟩
    refine toR (R := RV W) (g := fun y h1 => (o_ownI κ c fn fr d0 y h1).to env fun z h2 => .nx (env.set i (some z)) h2) c0 q fun α' y h1 w H1 le c1 ry k1 => ?_
    refine ⟨α', h1, d0, y, c1.hc, rv.mono le, ry, ?_⟩
    cases e1 : o_ownI κ c fn fr d0 y h1 with
    | bad => rw [e1] at k1; exact k1.elim
    | exc c2 d h' =>
      unfold o_ownI at e1
      split at e1
      · cases e2 : o_own κ c fn fr d0 y h1 <;> (rw [e2] at e1; cases e1)
      · cases e1
    | ok z h2 =>
      rw [e1] at k1
      exact fun α2 H2 v le2 hc2 r => k1 α2 _ H2 le2 ((c1.later le2 hc2).set r)
  · exact q.elim
/-! comparisons -/
/-- a comparison's method -/
structure CmpF (K : PySem.W.Frag) (C f : Addr) (nm : Str) : Prop where
  at_ : PySem.W.findIn K (.ref C) nm = some (some (.ref f))
  fn : PySem.W.isFn K (.ref f) = true
  self : ∀ T ∈ (["NoneType", "bool", "int", "str", "tuple", "list"] : List String), PySem.W.notFirst K C (.type T) = true
theorem notFirst_self {K : PySem.W.Frag} {C : Addr} : PySem.W.notFirst K C (.ref C) = true := by
  unfold PySem.W.notFirst
  simp
theorem q_cmpOwn {op : CmpOp} {c fn : Nat} {κ : Kap} (hop : ∀ a b, compareOp op a b = richCompare op a b) (hK : W.K = X.K) (O : CmpF X.K (W.cl c) f (cmpInfo op).2.1) (F : FnG X.prog X.w X.K X.mg X.base k f fd ps (spG W (κ.fn fn))) (bd : Binds X.K fd ps [])
    (tk : Takes X Wx) (hr : Room k X.A) (hn : NoG X.A) (ha : PE X a (semE W Wx fa)) (hb : PE X b (semE W Wx fb)) (hm : behindInMarks op b = false) : PE X (.Compare a [op] [b] pos) (semE W Wx (e_2 (o_cmp κ c fn) fa fb)) :=
  ⟨fun pins s σ H Q I hq => wpAny_Compare1 (bin ha hb I (sem_2V hq) fun v u s2 x y H2 I2 rx ry q => by
    obtain ⟨α, h, dx, dy, hc, r1, r2, q⟩ := q
    unfold o_cmp at q
    split at q
    · rename_i e
      obtain ⟨p, ox, od, rfl, rfl, J⟩ := ins_at hc r1 e.1 I2 rx
      obtain ⟨p2, oy, oe, rfl, rfl, J2⟩ := ins_at hc r2 e.2 I2 ry
      obtain ⟨m, hF⟩ := I2.fr
      rw [hop]
      refine PySem.W.cmp_K hr.units0 hF I2.ok.mod.kin J J2.type notFirst_self O.at_ O.fn ?_
      exact wpAny_mono (run_g (zs := [V.ref p, V.ref p2]) F hr hn bd (passAt tk σ) I2 (.cons rfl (.cons rfl .nil)) ⟨α, [dx, dy], h, hc, by simp only [Reps]; exact ⟨_, _, rfl, r1, _, _, rfl, r2, rfl⟩, q⟩) (fun _ _ z => back_ep z) fun _ _ z => z
    · exact q.elim) hm⟩
/-- x in o -/
theorem q_inOwn {c fn : Nat} {κ : Kap} (hK : W.K = X.K) (at_ : PySem.W.findIn X.K (.ref (W.cl c)) (Str.ofString "__contains__") = some (some (.ref f))) (isf : PySem.W.isFn X.K (.ref f) = true) (F : FnG X.prog X.w X.K X.mg X.base k f fd ps (spG W (κ.fn fn))) (bd : Binds X.K fd ps [])
    (tk : Takes X Wx) (hr : Room k X.A) (hn : NoG X.A) (ha : PE X a (semE W Wx fa)) (hb : PE X b (semE W Wx fb)) (hm : behindInMarks .In b = false) : PE X (.Compare a [.In] [b] pos) (semE W Wx (e_2 (o_ownIn κ c fn) fa fb)) :=
  ⟨fun pins s σ H Q I hq => wpAny_Compare1 (bin ha hb I (sem_2V hq) fun v u s2 x y H2 I2 rx ry q => by
    obtain ⟨α, h, dx, dy, hc, r1, r2, q⟩ := q
    unfold o_ownIn at q
    split at q
    · rename_i e
      obtain ⟨p, ox, od, rfl, rfl, J⟩ := ins_at hc r2 e I2 ry
      obtain ⟨m, hF⟩ := I2.fr
      refine PySem.W.in_K hF I2.ok.mod.kin J at_ isf ?_
      refine wpAny_mono (run_g (zs := [V.ref p, x]) (Q := fun z H' => ∃ b, z = .bl b ∧ Q (.bl b) H') F hr hn bd (passAt tk σ) I2 (.cons rfl (.cons rx .nil)) ⟨α, [dy, dx], h, hc, by simp only [Reps]; exact ⟨_, _, rfl, r2, _, _, rfl, r1, rfl⟩, ?_⟩) (fun z s' hz => ?_) fun _ _ z => z
      · cases e1 : κ.fn fn [dy, dx] h with
        | bad => rw [e1] at q; exact q
        | exc c1 d h' => rw [e1] at q; exact q
        | ok z h1 =>
          rw [e1] at q
          simp only [Res.bind_ok] at q
          obtain ⟨b, eb, q⟩ := Run.lift q
          exact fun α' H' u l hc' ru => ⟨b, rep_bl eb ru, q α' H' (.bl b) l hc' r_bl⟩
      · obtain ⟨z', H', I', rz, b, rfl, qb⟩ := hz
        cases (show z = Value.bool b from rz)
        exact wpAny_truthy_bool ⟨.bl b, H', I', rfl, qb⟩
    · exact q.elim) hm⟩
/-- a built-in function whose work an own method does -/
theorem s_low {id : String} {c fn : Nat} {κ : Kap} (hK : W.K = X.K) (step : ∀ {A : Around} {E : Value → Shared → Prop} {s : Shared} {x : Addr} {ox od : Obj} {Q : Value → Shared → Prop}, X.K.In s.heap → PySem.W.InstAt s.heap x ox (W.cl c) (some od) → wpAny (model X.prog X.w) A.in1 (call (.ref f) [.ref x]) Q E s → wpAny (model X.prog X.w) A (call (.builtin id) [.ref x]) Q E s) : True := trivial
end
end IR
end

section
set_option Elab.async false
set_option linter.all false
set_option autoImplicit false
set_option maxRecDepth 100000
set_option maxHeartbeats 4000000
/-! more operations: in, items, slices, built-ins, methods, what is walked -/
namespace IR
open PySem PySem.Spec PyProof.Rows L2
section
variable {W : Wd} {α : List Addr} {H : Hp} {h : IR.Heap} {E : XK} {Q : VK} {K : PySem.W.Frag}
/-- a sequence, by its items -/
theorem items_at (hc : HCorr W α h H) {x : D} {v : V} {ds : List D} (rx : Rep W.K α H x v) (e : items h x = some ds) : ∃ p vs, v = .ref p ∧ (SqL W.K H p vs ∨ SqT W.K H p vs) ∧ Reps W.K α H ds vs := by
  unfold items at e
  split at e
  · cases e; obtain ⟨p, vs, rfl, hp, r⟩ := of_tup rx; exact ⟨p, vs, rfl, .inr hp, r⟩
  · cases e; obtain ⟨p, vs, rfl, hp, r⟩ := of_frz rx; exact ⟨p, vs, rfl, .inl hp.sql, r⟩
  · split at e
    · rename_i k ds' e1
      cases e
      obtain ⟨p, vs, _, rfl, hp, r⟩ := lst_at hc rx e1
      exact ⟨p, vs, rfl, .inl (SqL.of hp), r⟩
    · cases e
  · cases e
/-- flat values -/
def PD.v : PD → V
  | .none => .non
  | .bool b => .bl b
  | .int i => .int i
  | .str s => .str (toStr s)
  | _ => .non
def PD.fl : PD → Prop
  | .list _ => False
  | .tuple _ => False
  | _ => True
theorem flat_v {x : D} {v : V} {p : PD} (r : Rep K α H x v) (e : flat x = some p) : v = p.v ∧ flatV v = true ∧ p.fl := by
  cases x with
  | non => cases e; rw [of_non r]; exact ⟨rfl, rfl, trivial⟩
  | bl b => cases e; rw [of_bl r]; exact ⟨rfl, rfl, trivial⟩
  | int i => cases e; rw [of_int r]; exact ⟨rfl, rfl, trivial⟩
  | str s => cases e; rw [of_str r]; exact ⟨rfl, rfl, trivial⟩
  | _ => cases e
theorem eqV_v {p q : PD} (hp : p.fl) (hq : q.fl) : eqV p.v q.v = p.eqv q := by
  cases p <;> cases q <;> first | exact hp.elim | exact hq.elim | rfl | skip
  exact toStr_inj
theorem flats_v : ∀ {ds : List D} {vs : List V} {ps : List PD}, Reps K α H ds vs → mapO flat ds = some ps → vs.all flatV = true ∧ ∀ (p : PD), p.fl → inV p.v vs = ps.any fun q => q.eqv p
  | [], vs, ps, r, e => by
    simp only [Reps] at r; subst r
    simp only [mapO] at e; cases e
    exact ⟨rfl, fun _ _ => rfl⟩
  | d :: ds, vs, ps, r, e => by
    simp only [Reps] at r
    obtain ⟨v, rs, rfl, rv, rr⟩ := r
    simp only [mapO] at e
    split at e
    · rename_i q qs e1 e2
      cases e
      obtain ⟨x1, x2, x3⟩ := flat_v rv e1
      obtain ⟨y1, y2⟩ := flats_v rr e2
      refine ⟨by simp [x2, y1], fun p hp => ?_⟩
      have := y2 p hp
      unfold inV at this ⊢
      simp only [List.any_cons, this, x1, eqV_v x3 hp]
    · cases e
abbrev rInS : R2 := fun x y H Q => ∃ c z, x = .str ⟨#[c]⟩ ∧ y = .str z ∧ Q (.bl (decide (c ∈ z.cps.toList))) H
abbrev rNiS : R2 := fun x y H Q => ∃ c z, x = .str ⟨#[c]⟩ ∧ y = .str z ∧ Q (.bl (!decide (c ∈ z.cps.toList))) H
theorem op_inAll {X : Cx} : OpR X (compareOp .In) (fun x y H Q => rIn X.K false x y H Q ∨ rInS x y H Q) := op_in_seq.or op_in_sign
theorem op_niAll {X : Cx} : OpR X (compareOp .NotIn) (fun x y H Q => rIn X.K true x y H Q ∨ rNiS x y H Q) := op_notIn_seq.or op_notIn_sign
theorem isIn_of (hc : HCorr W α h H) {x y : D} {v w : V} {b : Bool} (rx : Rep W.K α H x v) (ry : Rep W.K α H y w) (e : isIn h x y = some b) :
    (∃ p xs, w = .ref p ∧ (SqL W.K H p xs ∨ SqT W.K H p xs) ∧ flatV v = true ∧ xs.all flatV = true ∧ inV v xs = b) ∨ ∃ c z, v = .str ⟨#[c]⟩ ∧ w = .str z ∧ decide (c ∈ z.cps.toList) = b := by
  unfold isIn at e
  split at e
  · rename_i s t
    split at e
    · rename_i c
      cases e
      refine .inr ⟨c, toStr t, of_str rx, of_str ry, ?_⟩
      simp
    · cases e
  · split at e
    · rename_i ds e1
      split at e
      · rename_i p qs e2 e3
        cases e
        obtain ⟨a, xs, rfl, hp, r⟩ := items_at hc ry e1
        obtain ⟨x1, x2, x3⟩ := flat_v rx e2
        obtain ⟨y1, y2⟩ := flats_v r e3
        exact .inl ⟨a, xs, rfl, hp, x2, y1, by rw [x1]; exact y2 p x3⟩
      · cases e
    · cases e
theorem s_in : O2S W o_in (fun x y H Q => rIn W.K false x y H Q ∨ rInS x y H Q) := by
  intro E α H h x y v w Q hc rx ry k
  obtain ⟨b, e, k⟩ := Run.lift k
  rcases isIn_of hc rx ry e with ⟨p, xs, rfl, hp, f1, f2, e2⟩ | ⟨c, z, rfl, rfl, e2⟩
  · exact .inl ⟨p, xs, rfl, hp, f1, f2, by simp only [Bool.false_eq_true, if_false]; rw [e2]; exact Run.done k hc r_bl⟩
  · exact .inr ⟨c, z, rfl, rfl, by rw [e2]; exact Run.done k hc r_bl⟩
theorem s_notin : O2S W o_notin (fun x y H Q => rIn W.K true x y H Q ∨ rNiS x y H Q) := by
  intro E α H h x y v w Q hc rx ry k
  obtain ⟨b, e, k⟩ := Run.lift k
  rcases isIn_of hc rx ry e with ⟨p, xs, rfl, hp, f1, f2, e2⟩ | ⟨c, z, rfl, rfl, e2⟩
  · exact .inl ⟨p, xs, rfl, hp, f1, f2, by simp only [if_true]; rw [e2]; exact Run.done k hc r_bl⟩
  · exact .inr ⟨c, z, rfl, rfl, by rw [e2]; exact Run.done k hc r_bl⟩
/-! items -/
theorem ixN_eq {n : Nat} {i : Int} : IR.ixN n i = L2.ixN n i := by
  unfold IR.ixN L2.ixN
  split
  · rfl
  · by_cases hh : 0 ≤ i + n
    · rw [if_pos hh, if_pos (by omega)]
    · rw [if_neg hh, if_neg (by omega)]
theorem atI_rep {ds : List D} {vs : List V} {i : Int} {d : D} (r : Reps K α H ds vs) (e : IR.atI ds i = some d) : ∃ v, L2.atI vs i = some v ∧ Rep K α H d v := by
  unfold IR.atI at e
  unfold L2.atI
  rw [← ixN_eq, ← r.length]
  cases hj : IR.ixN ds.length i with
  | none => rw [hj] at e; cases e
  | some j =>
    rw [hj] at e
    exact r.get e
theorem okT.mem {s : Txt} (o : okT s) {c : Nat} (h : c ∈ s) : okT [c] := fun x hx => by
  simp at hx; subst hx; exact o _ h
theorem s_item : O2S W o_item (rIx W.K) := by
  intro E α H h x y v w Q hc rx ry k
  unfold o_item at k
  split at k
  · rename_i s i
    obtain ⟨hl, k⟩ := Run.ite k
    obtain ⟨d, e, k⟩ := Run.lift1 k
    cases hj : IR.atI s i with
    | none => rw [hj] at e; cases e
    | some c =>
      rw [hj] at e
      cases e
      refine .inr (.inr ⟨toStr s, i, c, of_str rx, of_int ry, by rw [str_len, size_lim]; exact hl, ?_, Run.done k hc (r_str ((ok_str rx).mem ?_))⟩)
      · unfold IR.atI at hj
        unfold L2.atI
        rw [← ixN_eq]
        exact hj
      · unfold IR.atI at hj
        cases hx : IR.ixN s.length i with
        | none => rw [hx] at hj; cases hj
        | some j => rw [hx] at hj; exact List.mem_of_getElem? hj
  · rename_i x' i _
    split at k
    · rename_i ds e1
      obtain ⟨d, e, k⟩ := Run.lift1 k
      obtain ⟨p, vs, rfl, hp, r⟩ := items_at hc rx e1
      obtain ⟨u, hu, ru⟩ := atI_rep r e
      rcases hp with hp | hp
      · exact .inl ⟨p, vs, i, u, rfl, of_int ry, hp, hu, Run.done k hc ru⟩
      · exact .inr (.inl ⟨p, vs, i, u, rfl, of_int ry, hp, hu, Run.done k hc ru⟩)
    · exact k.elim
  · exact k.elim
/-! slices -/
abbrev RSl := V → Option Int → Option Int → Hp → VK → Prop
abbrev rSlAll (K : PySem.W.Frag) : RSl := fun x lo hi H Q => rSlS x lo hi H Q ∨ rSlA K x lo hi H Q ∨ rSlL K x lo hi H Q
theorem sl_all {X : Cx} : SlR X (rSlAll X.K) := by
  intro pins s σ H x v vl vu lo hi sl Q I rx hs pl pu q
  rcases q with q | q | q
  · exact sl_str pins s σ H x v vl vu lo hi sl Q I rx hs pl pu q
  · exact sl_tupA pins s σ H x v vl vu lo hi sl Q I rx hs pl pu q
  · exact sl_list pins s σ H x v vl vu lo hi sl Q I rx hs pl pu q
theorem sIx_eq {n d : Nat} {o : Option Int} : IR.sIx n d o = HT.sIx n d o := by
  cases o with
  | none => rfl
  | some i => rfl
theorem cut_rep {ds : List D} {vs : List V} {lo hi : Option Int} (r : Reps K α H ds vs) : Reps K α H (cut ds lo hi) (cutV vs lo hi) := by
  unfold cut cutV
  rw [sIx_eq, sIx_eq, ← r.length]
  exact (r.drop _).take _
theorem cut_whole {β : Type} {xs : List β} {lo hi : Option Int} (h : HT.sIx xs.length 0 lo = 0 ∧ HT.sIx xs.length xs.length hi = xs.length) : cut xs lo hi = xs := by
  unfold cut
  rw [sIx_eq, sIx_eq, h.1, h.2]
  simp
theorem okT.sub {s t : Txt} (o : okT s) (h : ∀ c ∈ t, c ∈ s) : okT t := fun c hc => o c (h c hc)
theorem s_slice {x : D} {v : V} {lo hi : Option Int} (hc : HCorr W α h H) (rx : Rep W.K α H x v) (k : Run W (RV W) E α H Q (o_slice x lo hi h)) : rSlAll W.K v lo hi H Q := by
  unfold o_slice at k
  split at k
  · rename_i s
    obtain ⟨hl, k⟩ := Run.ite k
    refine .inl ⟨toStr s, of_str rx, by rw [str_len, size_lim]; exact hl, ?_⟩
    have e : cutS (toStr s) lo hi = toStr (cut s lo hi) := by
      unfold cutS cut
      rw [str_len, sIx_eq, sIx_eq]
    rw [e]
    refine Run.done k hc (r_str ((ok_str rx).sub fun c hc => ?_))
    unfold cut at hc
    exact List.mem_of_mem_drop (List.mem_of_mem_take hc)
  · rename_i ds
    obtain ⟨p, vs, rfl, hp, r⟩ := of_tup rx
    refine .inr (.inl ⟨p, vs, rfl, hp, fun hw => ?_, fun hw q hq => ?_⟩)
    · have : cut ds lo hi = ds := cut_whole (by rw [r.length]; exact hw)
      rw [this] at k
      exact Run.done k hc (by simp only [RV, Rep]; exact ⟨p, vs, rfl, hp, r⟩)
    · obtain ⟨le, hc2, rr⟩ := new_tup hq hc (cut_rep (lo := lo) (hi := hi) r)
      exact k _ _ _ le hc2 rr
  · rename_i ds
    obtain ⟨p, vs, rfl, hp, r⟩ := of_frz rx
    refine .inr (.inr ⟨p, vs, rfl, hp.sql, fun q hq => ?_⟩)
    obtain ⟨le, hc2, rr⟩ := new_lst hq hc (cut_rep (lo := lo) (hi := hi) r)
    exact k _ _ _ le hc2 rr
  · split at k
    · rename_i e1
      obtain ⟨p, vs, _, rfl, hp, r⟩ := lst_at hc rx e1
      refine .inr (.inr ⟨p, vs, rfl, SqL.of hp, fun q hq => ?_⟩)
      obtain ⟨le, hc2, rr⟩ := new_lst hq hc (cut_rep (lo := lo) (hi := hi) r)
      exact k _ _ _ le hc2 rr
    · exact k.elim
  · exact k.elim
end
section
variable {W : Wd} {Wx : WX} {X : Cx} {a b e : Expr} {fa fb : SE} {pos p2 : Pos} {lo hi : Option Expr} {fl fh : SO}
theorem q_item (hK : W.K = X.K) (ha : PE X a (semE W Wx fa)) (hb : PE X b (semE W Wx fb)) (hs : PlainIx b := by intro _ _; rfl) : PE X (.Subscript a b pos) (semE W Wx (e_2 o_item fa fb)) :=
  (pe_ix (r := rIx X.K) ix_seq ha hb hs).imp fun _ _ _ q => sem_2 (hK ▸ s_item) q
theorem qo_none : PO X none (semO W Wx so_none) := ⟨fun pins s σ H Q I ⟨α, env, h, c, k⟩ => po_none.run pins s σ H Q I (Run.done k c.hc rfl)⟩
theorem qo_some (he : PE X e (semE W Wx fa)) : PO X (some e) (semO W Wx (so_some fa)) := ⟨fun pins s σ H Q I q => (po_some he).run pins s σ H Q I (bindG (g := fun env x h1 => (liftO (asI x) h1).bind fun i h1 => Res.ok (some i) h1) q fun α env x h1 v H1 c rx k => by
    obtain ⟨i, e, k⟩ := Run.lift k
    cases x with
    | int j => cases e; exact ⟨i, of_int rx, Run.done k c.hc rfl⟩
    | _ => cases e)⟩
theorem q_slice (hK : W.K = X.K) (ha : PE X a (semE W Wx fa)) (hl : PO X lo (semO W Wx fl)) (hh : PO X hi (semO W Wx fh)) : PE X (.Subscript a (.Slice lo hi none p2) pos) (semE W Wx (e_slice fa fl fh)) :=
  (pe_slice sl_all ha hl hh).imp fun σ H Q q => bindG (g := fun env x h1 => (fl env h1).bind fun i h2 => (fh env h2).bind fun j h3 => o_slice x i j h3) q fun α env x h1 v H1 c rx k =>
    bindR (g := fun i h2 => (fh env h2).bind fun j h3 => o_slice x i j h3) c k fun α2 i h2 i' H2 le2 c2 ei k2 => by
      cases ei
      exact bindR (g := fun j h3 => o_slice x i j h3) c2 k2 fun α3 j h3 j' H3 le3 c3 ej k3 => by
        cases ej
        exact hK ▸ s_slice c3.hc ((rx.mono le2).mono le3) k3
/-! calls of built-ins -/
theorem rep1 {α : List Addr} {H : Hp} {x : D} {vs : List V} (r : Reps W.K α H [x] vs) : ∃ v, vs = [v] ∧ Rep W.K α H x v := by
  simp only [Reps] at r
  obtain ⟨v, r1, rfl, rv, rfl⟩ := r
  exact ⟨v, rfl, rv⟩
theorem rep2 {α : List Addr} {H : Hp} {x y : D} {vs : List V} (r : Reps W.K α H [x, y] vs) : ∃ v w, vs = [v, w] ∧ Rep W.K α H x v ∧ Rep W.K α H y w := by
  simp only [Reps] at r
  obtain ⟨v, r1, rfl, rv, w, r2, rfl, rw', rfl⟩ := r
  exact ⟨v, w, rfl, rv, rw'⟩
abbrev rLenAll (K : PySem.W.Frag) : List V → Hp → VK → Prop := fun xs H Q => ∃ x n, xs = [x] ∧ LenV K x H n ∧ Q (.int n) H
theorem s_len : OLS W b_len (rLenAll W.K) := by
  intro E α H h xs vs Q hc rx k
  unfold b_len at k
  split at k
  · rename_i x
    obtain ⟨v, rfl, rv⟩ := rep1 rx
    obtain ⟨d, e, k⟩ := Run.lift1 k
    cases hn : lenD h x with
    | none => rw [hn] at e; cases e
    | some n =>
      rw [hn] at e
      cases e
      refine ⟨v, n, rfl, ?_, Run.done k hc r_int⟩
      unfold lenD at hn
      split at hn
      · rename_i s
        split at hn
        · rename_i hl
          cases hn
          rw [of_str rv]
          exact ⟨by rw [str_len, size_lim]; exact hl, by rw [str_len]⟩
        · cases hn
      · cases hn; obtain ⟨p, us, rfl, hp, r⟩ := of_tup rv; exact .inr ⟨us, hp, r.length⟩
      · cases hn; obtain ⟨p, us, rfl, hp, r⟩ := of_frz rv; exact .inl ⟨us, hp.sql, r.length⟩
      · split at hn
        · rename_i k ds e1
          cases hn
          obtain ⟨p, us, _, rfl, hp, r⟩ := lst_at hc rv e1
          exact .inl ⟨us, SqL.of hp, r.length⟩
        · rename_i k kvs e1
          obtain ⟨a, ea, rfl⟩ := of_ref rv
          exact (hc.ob _ _ a e1 ea).elim
        · cases hn
      · cases hn
  · exact k.elim
abbrev rAbsI : List V → Hp → VK → Prop := fun xs H Q => ∃ i, xs = [.int i] ∧ Q (.int (if i < 0 then -i else i)) H
theorem s_abs : OLS W b_abs rAbsI := by
  intro E α H h xs vs Q hc rx k
  unfold b_abs at k
  split at k
  · rename_i i
    obtain ⟨v, rfl, rv⟩ := rep1 rx
    exact ⟨i, by rw [of_int rv], Run.done k hc r_int⟩
  · exact k.elim
abbrev rInt1 : List V → Hp → VK → Prop := fun xs H Q => (∃ i, xs = [.int i] ∧ Q (.int i) H) ∨ ∃ k, xs = [.bl k] ∧ Q (.int (if k then 1 else 0)) H
theorem s_int1 : OLS W b_int rInt1 := by
  intro E α H h xs vs Q hc rx k
  unfold b_int at k
  split at k
  · rename_i i
    obtain ⟨v, rfl, rv⟩ := rep1 rx
    exact .inl ⟨i, by rw [of_int rv], Run.done k hc r_int⟩
  · rename_i i
    obtain ⟨v, rfl, rv⟩ := rep1 rx
    exact .inr ⟨i, by rw [of_bl rv], Run.done k hc r_int⟩
  · exact k.elim
abbrev rMaxI : List V → Hp → VK → Prop := fun xs H Q => ∃ i j, xs = [.int i, .int j] ∧ Q (.int (if j > i then j else i)) H
abbrev rMinI : List V → Hp → VK → Prop := fun xs H Q => ∃ i j, xs = [.int i, .int j] ∧ Q (.int (if j < i then j else i)) H
theorem s_max : OLS W b_max rMaxI := by
  intro E α H h xs vs Q hc rx k
  unfold b_max at k
  split at k
  · rename_i i j
    obtain ⟨v, w, rfl, rv, rw'⟩ := rep2 rx
    exact ⟨i, j, by rw [of_int rv, of_int rw'], Run.done k hc r_int⟩
  · exact k.elim
theorem s_min : OLS W b_min rMinI := by
  intro E α H h xs vs Q hc rx k
  unfold b_min at k
  split at k
  · rename_i i j
    obtain ⟨v, w, rfl, rv, rw'⟩ := rep2 rx
    exact ⟨i, j, by rw [of_int rv, of_int rw'], Run.done k hc r_int⟩
  · exact k.elim
abbrev rTupOf (K : PySem.W.Frag) : List V → Hp → VK → Prop := fun xs H Q => ∃ p ys, xs = [.ref p] ∧ ((SqL K H p ys ∧ ∀ l, H l = none → Q (.ref l) (upd H l (.tup ys))) ∨ (SqT K H p ys ∧ Q (.ref p) H))
theorem s_tuple : OLS W b_tuple (rTupOf W.K) := by
  intro E α H h xs vs Q hc rx k
  unfold b_tuple at k
  split at k
  · rename_i x
    obtain ⟨v, rfl, rv⟩ := rep1 rx
    obtain ⟨d, e, k⟩ := Run.lift1 k
    cases hi : items h x with
    | none => rw [hi] at e; cases e
    | some ds =>
      rw [hi] at e
      cases e
      obtain ⟨p, ys, rfl, hp, r⟩ := items_at hc rv hi
      refine ⟨p, ys, rfl, ?_⟩
      rcases hp with hp | hp
      · refine .inl ⟨hp, fun l hl => ?_⟩
        obtain ⟨le, hc2, rr⟩ := new_tup hl hc r
        exact k _ _ _ le hc2 rr
      · exact .inr ⟨hp, Run.done k hc (by simp only [RV, Rep]; exact ⟨p, ys, rfl, hp, r⟩)⟩
  · exact k.elim
abbrev rListOf (K : PySem.W.Frag) : List V → Hp → VK → Prop := fun xs H Q => ∃ p ys, xs = [.ref p] ∧ (SqL K H p ys ∨ SqT K H p ys) ∧ ∀ l, H l = none → Q (.ref l) (upd H l (.lst ys))
theorem s_list : OLS W b_list (rListOf W.K) := by
  intro E α H h xs vs Q hc rx k
  unfold b_list at k
  split at k
  · rename_i x
    obtain ⟨v, rfl, rv⟩ := rep1 rx
    obtain ⟨ds, e, k⟩ := Run.lift k
    obtain ⟨p, ys, rfl, hp, r⟩ := items_at hc rv e
    refine ⟨p, ys, rfl, hp, fun l hl => ?_⟩
    obtain ⟨le, hc2, rr⟩ := new_lst hl hc r
    exact k _ _ _ le hc2 rr
  · exact k.elim
theorem bools_rep {α : List Addr} {H : Hp} : ∀ {ds : List D} {vs : List V} {bs : List Bool}, Reps W.K α H ds vs → mapO asB ds = some bs → vs = bs.map V.bl
  | [], vs, bs, r, e => by simp only [Reps] at r; subst r; simp only [mapO] at e; cases e; rfl
  | d :: ds, vs, bs, r, e => by
    simp only [Reps] at r
    obtain ⟨v, rs, rfl, rv, rr⟩ := r
    simp only [mapO] at e
    split at e
    · rename_i q qs e1 e2
      cases e
      rw [rep_bl e1 rv, bools_rep rr e2]
      rfl
    · cases e
theorem bools_at {α : List Addr} {H : Hp} {h : IR.Heap} {x : D} {v : V} {bs : List Bool} (hc : HCorr W α h H) (rv : Rep W.K α H x v) (e : bools h x = some bs) : ∃ a, v = .ref a ∧ SqL W.K H a (bs.map V.bl) := by
  unfold bools at e
  split at e
  · split at e
    · rename_i e1
      obtain ⟨p, us, _, rfl, hp, r⟩ := lst_at hc rv e1
      exact ⟨p, rfl, by rw [← bools_rep r e]; exact SqL.of hp⟩
    · cases e
  · cases e
theorem s_all : OLS W b_all (rAll W.K) := by
  intro E α H h xs vs Q hc rx k
  unfold b_all at k
  split at k
  · rename_i x
    obtain ⟨v, rfl, rv⟩ := rep1 rx
    obtain ⟨bs, e, k⟩ := Run.lift k
    obtain ⟨a, rfl, hp⟩ := bools_at hc rv e
    exact ⟨a, bs, rfl, hp, Run.done k hc r_bl⟩
  · exact k.elim
theorem s_any : OLS W b_any (rAny W.K) := by
  intro E α H h xs vs Q hc rx k
  unfold b_any at k
  split at k
  · rename_i x
    obtain ⟨v, rfl, rv⟩ := rep1 rx
    obtain ⟨bs, e, k⟩ := Run.lift k
    obtain ⟨a, rfl, hp⟩ := bools_at hc rv e
    exact ⟨a, bs, rfl, hp, Run.done k hc r_bl⟩
  · exact k.elim
end
end IR
end

section
set_option Elab.async false
set_option linter.all false
set_option autoImplicit false
set_option maxRecDepth 100000
set_option maxHeartbeats 4000000
/-! repr of data -/
namespace IR
open PySem PySem.Spec PyProof.Rows L2
def okS (s : Str) : Prop := ∀ c ∈ s.cps.toList, c < 1114112
theorem okS.app {s t : Str} (a : okS s) (b : okS t) : okS (s ++ t) := by
  intro c hc
  have e : (s ++ t).cps.toList = s.cps.toList ++ t.cps.toList := by
    show (s.cps ++ t.cps).toList = _
    simp
  rw [e] at hc
  exact (List.mem_append.mp hc).elim (a c) (b c)
theorem char_lt (c : Char) : c.toNat < 1114112 := by
  have h := c.valid
  simp only [UInt32.isValidChar, Nat.isValidChar] at h
  show c.val.toNat < 1114112
  omega
theorem okS_of (s : String) : okS (Str.ofString s) := by
  intro c hc
  unfold Str.ofString at hc
  rw [cpsOfBytes_string] at hc
  simp only [List.mem_map] at hc
  obtain ⟨x, _, rfl⟩ := hc
  exact char_lt x
theorem ok_ite {p : Prop} [Decidable p] {a b : List Nat} (ha : ∀ x ∈ a, x < 1114112) (hb : ∀ x ∈ b, x < 1114112) : ∀ x ∈ (if p then a else b), x < 1114112 := by
  intro x hx
  by_cases hp : p
  · rw [if_pos hp] at hx; exact ha x hx
  · rw [if_neg hp] at hx; exact hb x hx
theorem ok_two {a b : Nat} (ha : a < 1114112) (hb : b < 1114112) : ∀ x ∈ [a, b], x < 1114112 := by
  intro x hx
  rcases List.mem_cons.mp hx with h | h
  · subst h; exact ha
  · rw [List.mem_singleton] at h; subst h; exact hb
theorem ok_ap {a b : List Nat} (ha : ∀ x ∈ a, x < 1114112) (hb : ∀ x ∈ b, x < 1114112) : ∀ x ∈ a ++ b, x < 1114112 := fun x hx => (List.mem_append.mp hx).elim (ha x) (hb x)
theorem ok_hex (w c : Nat) : ∀ x ∈ (List.replicate (w - ((Nat.toDigits 16 c).map Char.toNat).length) 48 ++ (Nat.toDigits 16 c).map Char.toNat), x < 1114112 := by
  intro x hx
  rcases List.mem_append.mp hx with h | h
  · rw [(List.mem_replicate.mp h).2]; decide
  · obtain ⟨y, _, rfl⟩ := List.mem_map.mp h
    exact char_lt y
theorem ok_char {q c : Nat} (hc : c < 1114112) : ∀ x ∈ Builtin.Str.reprChar q c, x < 1114112 := by
  unfold Builtin.Str.reprChar
  refine ok_ite (ok_two (by decide) hc) (ok_ite (ok_two (by decide) (by decide)) (ok_ite (ok_two (by decide) (by decide)) (ok_ite (ok_two (by decide) (by decide)) (ok_ite ?_ (ok_ite (ok_ap (ok_two (by decide) (by decide)) (ok_hex 2 c)) (ok_ite (ok_ap (ok_two (by decide) (by decide)) (ok_hex 4 c)) (ok_ap (ok_two (by decide) (by decide)) (ok_hex 8 c))))))))
  intro x hx
  rw [List.mem_singleton] at hx; subst hx; exact hc
theorem ok_fold {q : Nat} (hq : q < 1114112) : ∀ (l : List Nat) (acc : Array Nat), (∀ c ∈ l, c < 1114112) → (∀ x ∈ acc.toList, x < 1114112) → ∀ x ∈ (l.foldl (fun out c => out ++ (Builtin.Str.reprChar q c).toArray) acc).toList, x < 1114112
  | [], acc, _, ha => ha
  | c :: l, acc, hl, ha => by
    rw [List.foldl_cons]
    refine ok_fold hq l _ (fun z hz => hl z (List.mem_cons_of_mem _ hz)) fun x hx => ?_
    simp only [Array.toList_append, List.mem_append] at hx
    exact hx.elim (ha x) (ok_char (hl c List.mem_cons_self) x)
theorem okS_repr {s : Str} (o : okS s) : okS (reprText s) := by
  have hq : reprQuote s < 1114112 := by unfold reprQuote; split <;> decide
  intro c hc
  unfold reprText at hc
  simp only [Array.toList_push, List.mem_append, List.mem_singleton] at hc
  rcases hc with h | h
  · rw [← Array.foldl_toList] at h
    exact ok_fold hq _ _ o (fun x hx => by simp at hx; subst hx; exact hq) c h
  · subst h; exact hq
theorem okS_from : ∀ (ts : List Str) (k : Nat) (acc : Str), (∀ t ∈ ts, okS t) → okS acc → okS (textFrom k acc ts)
  | [], k, acc, _, h => h
  | t :: r, k, acc, ht, h => okS_from r (k + 1) _ (fun z hz => ht z (List.mem_cons_of_mem _ hz)) ((h.app (okS_of _)).app (ht t List.mem_cons_self))
theorem okS_join (sep : Str) (hs : okS sep) : ∀ ts : List Str, (∀ t ∈ ts, okS t) → okS (Str.join sep ts)
  | [], _ => by intro c hc; simp [Str.join, Str.empty] at hc
  | [x], h => h x List.mem_cons_self
  | x :: y :: r, h => ((h x List.mem_cons_self).app hs).app (okS_join sep hs (y :: r) fun z hz => h z (List.mem_cons_of_mem _ hz))
mutual
theorem okS_shown : ∀ d : PyData, d.canLay0 = true → okS d.shown
  | .none, _ => okS_of _
  | .bool b, _ => by cases b <;> exact okS_of _
  | .int i, _ => okS_of _
  | .str x, h => by
    simp only [PyData.shown]
    refine okS_repr fun c hc => ?_
    have h0 : x.cps.all (· < 0x110000) = true := by simpa only [PyData.canLay0, PyData.strOk] using h
    have := (Array.all_eq_true_iff_forall_mem.mp h0) c (Array.mem_toList_iff.mp hc)
    simpa using this
  | .list xs, h => by
    simp only [PyData.shown]
    exact (okS_from _ 0 _ (okS_shownAll xs (by simpa only [PyData.canLay0] using h)) (okS_of _)).app (okS_of _)
  | .tuple xs, h => by
    simp only [PyData.shown]
    exact ((okS_of _).app (okS_join _ (okS_of _) _ (okS_shownAll xs (by simpa only [PyData.canLay0] using h)))).app (okS_of _)
  | .dict kvs, h => by simp only [PyData.canLay0] at h; cases h
theorem okS_shownAll : ∀ ds : List PyData, PyData.canLayAll0 ds = true → ∀ t ∈ PyData.shownAll ds, okS t
  | [], _, t, ht => by simp only [PyData.shownAll] at ht; cases ht
  | d :: ds, h, t, ht => by
    have h' : d.canLay0 = true ∧ PyData.canLayAll0 ds = true := by simpa only [PyData.canLayAll0, Bool.and_eq_true] using h
    simp only [PyData.shownAll] at ht
    rcases List.mem_cons.mp ht with e | e
    · subst e; exact okS_shown d h'.1
    · exact okS_shownAll ds h'.2 t e
end
/-! how long -/
mutual
theorem wt_to : ∀ p : PD, p.to.weight = p.wt
  | .none => by simp [PD.to, PD.wt, PyData.weight]
  | .bool b => by simp [PD.to, PD.wt, PyData.weight]
  | .int i => by
    simp only [PD.to, PD.wt, PyData.weight]
    by_cases h : i = 0
    · subst h; rfl
    · have : (i == 0) = false := beq_eq_false_iff_ne.mpr h
      rw [this, if_neg h]; rfl
  | .str s => by simp [PD.to, PD.wt, PyData.weight]
  | .list xs => by simp only [PD.to, PD.wt, PyData.weight, wts_to xs]
  | .tuple xs => by simp only [PD.to, PD.wt, PyData.weight, wts_to xs]
theorem wts_to : ∀ ps : List PD, PyData.weightAll (PD.tos ps) = PD.wts ps
  | [] => by simp [PD.tos, PD.wts, PyData.weightAll]
  | p :: ps => by simp only [PD.tos, PD.wts, PyData.weightAll, wt_to p, wts_to ps]
end
mutual
theorem showable_to : ∀ p : PD, p.small = true → p.to.showable = true ∧ p.to.intsShort 1921 = true
  | .none, _ => by simp [PD.to, PyData.showable, PyData.intsShort]
  | .bool b, _ => by simp [PD.to, PyData.showable, PyData.intsShort]
  | .int i, h => by
    simp only [PD.small, decide_eq_true_eq] at h
    simp only [PD.to, PyData.showable, PyData.intsShort, decide_eq_true_eq]
    refine ⟨h, ?_⟩
    show (Str.ofString (toString i)).length ≤ 1921
    rw [PySem.ofString_length]
    exact int_text_length_le (by decide) h
  | .str s, _ => by simp [PD.to, PyData.showable, PyData.intsShort]
  | .list xs, h => by
    simp only [PD.to, PyData.showable, PyData.intsShort]
    exact showables_to xs (by simpa only [PD.small] using h)
  | .tuple xs, h => by
    simp only [PD.to, PyData.showable, PyData.intsShort]
    exact showables_to xs (by simpa only [PD.small] using h)
theorem showables_to : ∀ ps : List PD, PD.smalls ps = true → PyData.showableAll (PD.tos ps) = true ∧ PyData.intsShortAll 1921 (PD.tos ps) = true
  | [], _ => by simp [PD.tos, PyData.showableAll, PyData.intsShortAll]
  | p :: ps, h => by
    simp only [PD.smalls, Bool.and_eq_true] at h
    have a := showable_to p h.1
    have b := showables_to ps h.2
    simp only [PD.tos, PyData.showableAll, PyData.intsShortAll, a.1, a.2, b.1, b.2, Bool.and_self, and_self]
end
mutual
theorem short_to : ∀ p : PD, p.tiny = true → p.to.showable = true ∧ p.to.intsShort 11 = true
  | .none, _ => by simp [PD.to, PyData.showable, PyData.intsShort]
  | .bool b, _ => by simp [PD.to, PyData.showable, PyData.intsShort]
  | .int i, h => by
    simp only [PD.tiny, decide_eq_true_eq] at h
    simp only [PD.to, PyData.showable, PyData.intsShort, decide_eq_true_eq]
    refine ⟨?_, ?_⟩
    · by_cases h0 : i.natAbs = 0
      · rw [h0]; decide
      · exact (Nat.log2_lt h0).mpr (Nat.lt_of_lt_of_le h (by decide +kernel))
    · show (Str.ofString (toString i)).length ≤ 11
      rw [PySem.ofString_length]
      exact int_text_length_le10 (k := 10) (by decide) (by simpa using h)
  | .str s, _ => by simp [PD.to, PyData.showable, PyData.intsShort]
  | .list xs, h => by
    simp only [PD.to, PyData.showable, PyData.intsShort]
    exact shorts_to xs (by simpa only [PD.tiny] using h)
  | .tuple xs, h => by
    simp only [PD.to, PyData.showable, PyData.intsShort]
    exact shorts_to xs (by simpa only [PD.tiny] using h)
theorem shorts_to : ∀ ps : List PD, PD.tinys ps = true → PyData.showableAll (PD.tos ps) = true ∧ PyData.intsShortAll 11 (PD.tos ps) = true
  | [], _ => by simp [PD.tos, PyData.showableAll, PyData.intsShortAll]
  | p :: ps, h => by
    simp only [PD.tinys, Bool.and_eq_true] at h
    have a := short_to p h.1
    have b := shorts_to ps h.2
    simp only [PD.tos, PyData.showableAll, PyData.intsShortAll, a.1, a.2, b.1, b.2, Bool.and_self, and_self]
end
theorem fits_to {p : PD} (hf : p.fits = true) (hl : p.to.canLay0 = true) : p.to.showable = true ∧ p.to.shown.length ≤ sizeLine := by
  unfold PD.fits at hf
  simp only [Bool.or_eq_true, Bool.and_eq_true, decide_eq_true_eq] at hf
  rcases hf with ⟨a, b⟩ | ⟨a, b⟩
  · obtain ⟨x, y⟩ := short_to p a
    refine ⟨x, ?_⟩
    have := PyData.shown_le 11 (by decide) p.to (PyData.leavesShort_of_canLay0 11 _ hl y)
    rw [wt_to] at this
    rw [size_lim]
    show _ ≤ 16777216
    omega
  · obtain ⟨x, y⟩ := showable_to p a
    refine ⟨x, ?_⟩
    have := PyData.shown_le 1921 (by decide) p.to (PyData.leavesShort_of_canLay0 1921 _ hl y)
    rw [wt_to] at this
    rw [size_lim]
    show _ ≤ 16777216
    omega
/-- how the machine writes data out -/
def shownP (p : PD) : Txt := p.to.shown.cps.toList
def rRepr (K : PySem.W.Frag) : List V → Hp → VK → Prop := fun xs H Q => ∃ a d, xs = [.ref a] ∧ Dp K H (.ref a) d ∧ d.canLay0 = true ∧ d.depth ≤ 64 ∧ d.showable = true ∧ d.shown.length ≤ sizeLine ∧ Q (.str d.shown) H
theorem call_reprD {X : Cx} (hn : NoG X.A) (hu : X.A.units + 65 < cLine) : CallR X (.builtin "repr") (rRepr X.K) := by
  intro pins s σ H xs us Q I r h
  obtain ⟨a, d, rfl, hd, hl, hz, hs, hz2, q⟩ := h
  obtain ⟨u, rfl, ru⟩ := vals1 r
  cases (show u = Value.ref a from ru)
  obtain ⟨as, rd⟩ := Dp.reads I d (.ref a) (.ref a) hd rfl
  exact repr_of_reads' (h₀ := s.heap) rd hs (PyData.noDict_hsm (PyData.hasDict_of_canLay d hl)) hn (by omega) (fun _ _ e => e) (fun h' u tk hk => ⟨.str d.shown, H, I.kept (t' := tk) hk, ⟨_, rfl⟩, q⟩) hz2
section
variable {W : Wd}
theorem s_repr {κ : Kap} (hκ : κ.shown = shownP) : OLS W (b_repr κ) (rRepr W.K) := by
  have go : ∀ {E : XK} {α : List Addr} {H : Hp} {h : IR.Heap} {x : D} {v : V} {Q : VK}, HCorr W α h H → Rep W.K α H x v → (∃ a, v = .ref a) → Run W (RV W) E α H Q ((liftO (rd h DEEP x) h).bind fun p h => if p.fits then .ok (.str (κ.shown p)) h else .bad) → rRepr W.K [v] H Q := by
    intro E α H h x v Q hc rv hv k
    obtain ⟨a, rfl⟩ := hv
    obtain ⟨p, e, k⟩ := Run.lift k
    by_cases hf : p.fits = true
    · rw [if_pos hf] at k
      obtain ⟨x1, x2, x3⟩ := rd_reads hc DEEP x _ p rv e
      obtain ⟨f1, f2⟩ := fits_to hf x3
      refine ⟨a, p.to, rfl, x1, x3, by simp only [DEEP] at x2; omega, f1, f2, ?_⟩
      rw [hκ] at k
      have e2 : p.to.shown = toStr (shownP p) := rfl
      rw [e2]
      exact Run.done k hc (r_str (okS_shown _ x3))
    · rw [if_neg hf] at k; exact k.elim
  intro E α H h xs vs Q hc rx k
  unfold b_repr at k
  split at k
  · obtain ⟨v, rfl, rv⟩ := rep1 rx
    obtain ⟨a, _, e⟩ := of_ref rv
    exact go hc rv ⟨a, e⟩ k
  · obtain ⟨v, rfl, rv⟩ := rep1 rx
    obtain ⟨a, _, e, _⟩ := of_tup rv
    exact go hc rv ⟨a, e⟩ k
  · exact k.elim
end
end IR
end

section
set_option Elab.async false
set_option linter.all false
set_option autoImplicit false
set_option maxRecDepth 100000
set_option maxHeartbeats 4000000
/-! truth, isinstance, methods of lists, stores, what is walked -/
namespace IR
open PySem PySem.Spec PyProof.Rows L2
section
variable {W : Wd} {Wx : WX} {X : Cx} {a b c e o : Expr} {fa fb fc fo : SE} {pos p2 apos : Pos} {α : List Addr} {H : Hp} {h : IR.Heap} {E : XK} {Q : VK} {σ : L2.St} {env : IR.Env} {De : Ends}
theorem isE {α : Type} (l : List α) : (!l.isEmpty) = ((l.length : Int) != 0) := by cases l <;> simp <;> omega
theorem tru_of (hc : HCorr W α h H) {x : D} {v : V} {k : Bool} (rx : Rep W.K α H x v) (e : truth h x = some k) : TruV W.K v H k := by
  unfold truth at e
  split at e
  · cases e; rw [of_non rx]; exact rfl
  · cases e; rw [of_bl rx]; exact rfl
  · cases e; rw [of_int rx]; exact rfl
  · split at e
    · rename_i hl
      cases e
      rw [of_str rx]
      exact ⟨by rw [str_len, size_lim]; exact hl, by rw [str_len]; exact isE _⟩
    · cases e
  · cases e
    obtain ⟨p, vs, rfl, hp, r⟩ := of_tup rx
    exact .inr (.inl ⟨vs, hp, by rw [isE, isE, r.length]⟩)
  · cases e
    obtain ⟨p, vs, rfl, hp, r⟩ := of_frz rx
    exact .inl ⟨vs, hp.sql, by rw [isE, isE, r.length]⟩
  · split at e
    · rename_i e1
      cases e
      obtain ⟨p, us, _, rfl, hp, r⟩ := lst_at hc rx e1
      exact .inl ⟨us, SqL.of hp, by rw [isE, isE, r.length]⟩
    · rename_i e1
      obtain ⟨a, ea, rfl⟩ := of_ref rx
      exact (hc.ob _ _ a e1 ea).elim
    · cases e
theorem qt_e (hK : W.K = X.K) (ha : PE X a (semE W Wx fa)) (he : ∀ whole, isTrue a X.env whole = (do let v ← whole; standAt a.pos; holding [v] (truthy v)) := by intro _; rfl) : PT X a (semT W Wx (t_e fa)) :=
  (pt_truth ha he).imp fun σ H Q q => bindG (g := fun _ x h1 => liftO (truth h1 x) h1) q fun α env x h1 v H1 c rx k => by
    obtain ⟨b, e, k⟩ := Run.lift1 k
    exact ⟨b, hK ▸ tru_of c.hc rx e, Run.done k c.hc rfl⟩
/-! isinstance -/
structure IsaOk (W : Wd) (sub : Nat → Nat → Bool) (t : Ty) (u : Value) : Prop where
  non : PySem.W.kitOne W.K (.type "NoneType") u = some false
  bl : PySem.W.kitOne W.K (.type "bool") u = some t.bl
  int : PySem.W.kitOne W.K (.type "int") u = some t.int
  str : PySem.W.kitOne W.K (.type "str") u = some t.str
  tup : PySem.W.kitOne W.K (.type "tuple") u = some t.tup
  lst : PySem.W.kitOne W.K (.type "list") u = some t.lst
  own : ∀ c, PySem.W.kitOne W.K (.ref (W.cl c)) u = some (t.is sub c)
theorem isa_of {sub : Nat → Nat → Bool} {t : Ty} {u : Value} (hcl : ∀ c, ClsOk W c) (I : IsaOk W sub t u) (hc : HCorr W α h H) {x : D} {v : V} {k : Bool} (rx : Rep W.K α H x v) (e : isTy sub h x t = some k) : ∃ ty, TyX W.K H v ty ∧ PySem.W.kitOne W.K ty u = some k := by
  unfold isTy at e
  split at e
  · cases e; rw [of_non rx]; exact ⟨_, .base .non, I.non⟩
  · cases e; rw [of_bl rx]; exact ⟨_, .base (.bl _), I.bl⟩
  · cases e; rw [of_int rx]; exact ⟨_, .base (.int _), I.int⟩
  · cases e; rw [of_str rx]; exact ⟨_, .base (.str _), I.str⟩
  · cases e
    obtain ⟨p, vs, rfl, hp, r⟩ := of_tup rx
    rcases hp with (hp | ⟨o, hp⟩) | ⟨o, its, n, hp, hp2, _⟩
    · exact ⟨_, .base (.tup hp), I.tup⟩
    · exact ⟨_, .fTuple hp, I.tup⟩
    · exact ⟨_, .kTuple hp hp2, I.tup⟩
  · cases e
    obtain ⟨p, vs, rfl, hp, r⟩ := of_frz rx
    rcases hp with ⟨o, hp⟩ | hp
    · exact ⟨_, .base (.frz hp), I.lst⟩
    · rcases hp (fun _ => none) with (hp | ⟨o, hp⟩) | ⟨o, its, n, hp, hp2, _⟩
      · cases hp
      · cases hp
      · exact ⟨_, .kList hp hp2, I.lst⟩
  · obtain ⟨a, ea, rfl⟩ := of_ref rx
    split at e
    · rename_i e1
      cases e
      obtain ⟨vs, hp, r⟩ := hc.ob _ _ a e1 ea
      exact ⟨_, .base (.lst hp), I.lst⟩
    · rename_i e1
      exact (hc.ob _ _ a e1 ea).elim
    · rename_i cc fs e1
      cases e
      obtain ⟨dx, vs, hp, r⟩ := hc.ob _ _ a e1 ea
      have C := hcl cc
      exact ⟨_, .base (.ins hp C.cl C.cc C.cg C.ct C.co), I.own cc⟩
    · cases e
theorem q_isa {p : Pos} {sub : Nat → Nat → Bool} {t : Ty} {u : Value} {cv : V} {tx : Expr} (hK : W.K = X.K) (hcl : ∀ c, ClsOk W c) (I : IsaOk W sub t u) (cu : ClsV cv u) (hg : Gl X "isinstance") (hm : X.mg "isinstance" = none)
    (ha : PE X a (semE W Wx fa)) (ht : PE X tx (tC cv)) (he : starEach [a, tx] X.env = (false, eval a X.env) :: starEach [tx] X.env := by rfl) (he2 : starEach [tx] X.env = (false, eval tx X.env) :: starEach [] X.env := by rfl) (hpl : (backTo pos (starEach [tx] X.env)).any (·.1) = false := by rfl) :
    PE X (.Call (.Name "isinstance" p) [a, tx] [] pos) (semE W Wx (e_1 (o_isa sub t) fa)) :=
  (pe_callB call_isi hg hm (by rfl) (pa_cons ha (pa_cons ht pa_nil he2) he) (by decide) (by decide) he hpl).imp fun σ H Q q =>
    bindG (g := fun _ x h1 => o_isa sub t x h1) q fun α env x h1 v H1 c rx k => by
      obtain ⟨b, e, k⟩ := Run.lift k
      obtain ⟨ty, x1, x2⟩ := isa_of hcl I c.hc rx e
      exact ⟨v, cv, ty, u, b, rfl, cu, hK ▸ x1, hK ▸ x2, Run.done k c.hc r_bl⟩
/-! methods of lists -/
theorem write_lst {k : Nat} {p : Addr} {ds ds' : List D} {vs' : List V} (hc : HCorr W α h H) (e : h[k]? = some (.lst ds)) (ea : α[k]? = some p) (r : Reps W.K α H ds' vs') :
    Le W.K α H α (upd H p (.lst vs')) ∧ HCorr W α (h.set k (.lst ds')) (upd H p (.lst vs')) :=
  write_obj (lo' := .lst ds') hc e ea fun l e => ⟨_, e, r.mono l⟩
theorem lst_ty (hc : HCorr W α h H) {x : D} {v : V} (rx : Rep W.K α H x v) (e : isLst h x = true) : tyV W.K "list" v H ∧ True := by
  unfold isLst at e
  split at e
  · split at e
    · rename_i e1
      obtain ⟨p, us, _, rfl, hp, r⟩ := lst_at hc rx e1
      exact ⟨.inl ⟨rfl, _, SqL.of hp⟩, trivial⟩
    · cases e
  · cases e
theorem q_append (hK : W.K = X.K) (ho : PE X o (semE W Wx fo)) (ha : PE X a (semE W Wx fa)) (hbase : attributeBase o "append" X.env (eval o X.env) = eval o X.env := by rfl)
    (hfew : ((backTo pos (starEach [a] X.env)).all (fun x => !x.1) && (backToKw pos (keywordEach [] X.env)).all (fun x => x.1.isSome)
      && decide (([a] : List Expr).length + ([] : List Keyword).length + (if ([] : List Keyword).isEmpty then 0 else 1) < 30)) = true := by rfl)
    (hline : (apos.endLine == pos.line) = true := by rfl) (hs : starEach [a] X.env = (false, eval a X.env) :: starEach [] X.env := by rfl) (hplain : (backTo pos (starEach [] X.env)).any (·.1) = false := by rfl) :
    PE X (.Call (.Attribute o "append" apos) [a] [] pos) (semE W Wx (e_lm m_append fo fa)) :=
  (pe_bm PySem.F.plainAttrs_list PySem.F.slot_list_append PySem.F.type_list_append mt_append ho (pa_cons ha pa_nil hs) hbase hfew hline hs hplain).imp fun σ H Q q =>
    bindG (g := fun env x h1 => if isLst h1 x then (fa env h1).bind fun y h2 => m_append x y h2 else .bad) q fun α env x h1 v H1 c rx k => by
      obtain ⟨hl, k⟩ := Run.ite k
      obtain ⟨ty, rfl'⟩ := lst_ty c.hc rx hl
      refine ⟨hK ▸ ty, bindR (g := fun y h2 => m_append x y h2) c k fun α2 y h2 w H2 le c2 ry k2 => ?_⟩
      have rx2 := rx.mono le
      unfold m_append at k2
      split at k2
      · split at k2
        · rename_i e1
          obtain ⟨hz, k2⟩ := Run.ite k2
          obtain ⟨p, us, ep, rfl, hp, r⟩ := lst_at c2.hc rx2 e1
          refine ⟨p, us, w, rfl, rfl, hp, by rw [← r.length, size_lim]; exact hz, ?_⟩
          obtain ⟨lw, hw⟩ := write_lst c2.hc e1 ep (r.append (Reps.one ry))
          exact k2 _ _ _ lw hw r_non
        · exact k2.elim
      · exact k2.elim
theorem q_insert (hK : W.K = X.K) (ho : PE X o (semE W Wx fo)) (ha : PE X a (semE W Wx fa)) (hb : PE X b (semE W Wx fb)) (hbase : attributeBase o "insert" X.env (eval o X.env) = eval o X.env := by rfl)
    (hfew : ((backTo pos (starEach [a, b] X.env)).all (fun x => !x.1) && (backToKw pos (keywordEach [] X.env)).all (fun x => x.1.isSome)
      && decide (([a, b] : List Expr).length + ([] : List Keyword).length + (if ([] : List Keyword).isEmpty then 0 else 1) < 30)) = true := by rfl)
    (hline : (apos.endLine == pos.line) = true := by rfl) (hs : starEach [a, b] X.env = (false, eval a X.env) :: starEach [b] X.env := by rfl) (hs2 : starEach [b] X.env = (false, eval b X.env) :: starEach [] X.env := by rfl) (hplain : (backTo pos (starEach [b] X.env)).any (·.1) = false := by rfl) :
    PE X (.Call (.Attribute o "insert" apos) [a, b] [] pos) (semE W Wx (e_lm3 m_insert fo fa fb)) :=
  (pe_bm PySem.F.plainAttrs_list PySem.F.slot_list_insert PySem.F.type_list_insert mt_insert ho (pa_cons ha (pa_cons hb pa_nil hs2) hs) hbase hfew hline hs hplain).imp fun σ H Q q =>
    bindG (g := fun env x h1 => if isLst h1 x then (fa env h1).bind fun y h2 => (fb env h2).bind fun z h3 => m_insert x y z h3 else .bad) q fun α env x h1 v H1 c rx k => by
      obtain ⟨hl, k⟩ := Run.ite k
      obtain ⟨ty, rfl'⟩ := lst_ty c.hc rx hl
      refine ⟨hK ▸ ty, bindR (g := fun y h2 => (fb env h2).bind fun z h3 => m_insert x y z h3) c k fun α2 y h2 w H2 le c2 ry k2 => bindR (g := fun z h3 => m_insert x y z h3) c2 k2 fun α3 z h3 u H3 le3 c3 rz k3 => ?_⟩
      have rx2 := (rx.mono le).mono le3
      have ry2 := ry.mono le3
      unfold m_insert at k3
      split at k3
      · split at k3
        · rename_i e1
          obtain ⟨⟨hz, h0, h1'⟩, k3⟩ := Run.ite k3
          obtain ⟨p, us, ep, rfl, hp, r⟩ := lst_at c3.hc rx2 e1
          refine ⟨p, us, _, u, rfl, by rw [of_int ry2], hp, by rw [← r.length, size_lim]; exact hz, h0, by simp only [LIM] at hz; omega, ?_⟩
          obtain ⟨lw, hw⟩ := write_lst c3.hc e1 ep (((r.take _).append (Reps.one rz)).append (r.drop _))
          have e2 : ∀ (ds : List D) n (z : D), insAt ds n z = ds.take n ++ [z] ++ ds.drop n := fun ds n z => by simp [insAt]
          rw [e2] at k3
          exact k3 _ _ _ lw hw r_non
        · exact k3.elim
      · exact k3.elim
/-- xs[i] = e -/
theorem q_put (hK : W.K = X.K) (he : PE X e (semE W Wx fa)) (ho : PE X o (semE W Wx fo)) (hb : PE X b (semE W Wx fb)) (hs : swapsWithSole [.Subscript o b p2] e pos.line X.env = pure false := by rfl) (hw : swappedStores [.Subscript o b p2] e X.env = pure none := by rfl)
    (h1 : (assignEach [.Subscript o b p2] X.env).map (·.2) = [assign (.Subscript o b p2) X.env] := by rfl)
    (hg : ∀ v, assign (.Subscript o b p2) X.env v = (do
      let ov ← holding [v] (eval o X.env)
      let iv ← holding [v, ov] (eval b X.env)
      standAt p2
      holding [v, ov, iv] (setItem ov iv v)
      release [v, ov, iv] []) := by intro _; rfl) : PS X (.Assign [.Subscript o b p2] e pos) (semS W Wx (s_put p_list fo fb fa)) :=
  (ps_asg he (pg_sub ho hb set_list hg) hs hw h1).imp fun De σ H q => toG (R := RV W) (g := fun env v h1 => (fo env h1).to env fun x h2 => (fb env h2).to env fun y h3 => (p_list x y v h3).to env fun _ h4 => .nx env h4) q fun α env d h1 v H1 c rd k =>
    toR (R := RV W) (g := fun x h2 => (fb env h2).to env fun y h3 => (p_list x y d h3).to env fun _ h4 => .nx env h4) c k fun α2 x h2 w H2 le c2 rx k2 =>
      toR (R := RV W) (g := fun y h3 => (p_list x y d h3).to env fun _ h4 => .nx env h4) c2 k2 fun α3 y h3 u H3 le3 c3 ry k3 => by
        have rx3 := rx.mono le3
        have rd3 := (rd.mono le).mono le3
        unfold p_list at k3
        split at k3
        · split at k3
          · rename_i e1
            split at k3
            · rename_i hz
              obtain ⟨p, us, ep, rfl, hp, r⟩ := lst_at c3.hc rx3 e1
              refine ⟨p, us, _, _, rfl, of_int ry, hp, by rw [← r.length]; unfold L2.ixN; rw [if_pos hz.1, if_pos hz.2], ?_⟩
              obtain ⟨lw, hw⟩ := write_lst c3.hc e1 ep (r.set _ rd3)
              exact k3 _ _ _ lw (c3.later lw hw)
            · exact k3.elim
          · exact k3.elim
        · exact k3.elim
end
end IR
end

section
set_option Elab.async false
set_option linter.all false
set_option autoImplicit false
set_option maxRecDepth 100000
set_option maxHeartbeats 4000000
/-! what is walked -/
namespace IR
open PySem PySem.Spec PyProof.Rows L2 RZ
section
variable {W : Wd} {Wx : WX} {X : Cx} {a b c e o tg : Expr} {fa fb fc fo : SE} {pos p2 apos p : Pos} {α : List Addr} {H : Hp} {h : IR.Heap} {E : XK} {Q : VK} {σ : L2.St} {env : IR.Env} {De : Ends}
theorem its_lst {k : Nat} {q : Addr} {ds : List D} (eq : α[k]? = some q) : ItS W α H ⟨ds, [(k, .lst ds)]⟩ (Itl W.K q) := by
  have get : ∀ {α' : List Addr} {h' : IR.Heap} {H' : Hp}, Le W.K α H α' H' → HCorr W α' h' H' → Src.ok ⟨ds, [(k, .lst ds)]⟩ h' = true → ∃ vs, H' q = some (.lst vs) ∧ Reps W.K α' H' ds vs := by
    intro α' h' H' le hc ok
    simp only [Src.ok, List.all_cons, List.all_nil, Bool.and_true, decide_eq_true_eq] at ok
    obtain ⟨g, rfl⟩ := le.pre
    exact hc.ob k _ q ok (by rw [List.getElem?_append_left (List.getElem?_eq_some_iff.mp eq).1]; exact eq)
  constructor
  · intro i α' h' H' d le hc ok hd
    obtain ⟨vs, hv, r⟩ := get le hc ok
    obtain ⟨v, hv2, rv⟩ := r.get hd
    refine ⟨⟨vs, v, SqL.of hv, hv2⟩, fun x H2 hx => ?_⟩
    obtain ⟨rfl, hx⟩ := hx
    have := hx vs (SqL.of hv)
    rw [hv2] at this
    cases this
    exact ⟨Le.refl, hc, rv⟩
  · intro i α' h' H' le hc ok hl
    obtain ⟨vs, hv, r⟩ := get le hc ok
    exact ⟨vs, SqL.of hv, by rw [← r.length]; exact hl⟩
theorem its_frz {q : Addr} {ds : List D} {vs : List V} (hp : SqF W.K H q vs) (r : Reps W.K α H ds vs) : ItS W α H ⟨ds, []⟩ (Itl W.K q) := by
  constructor
  · intro i α' h' H' d le hc ok hd
    obtain ⟨v, hv2, rv⟩ := (r.mono le).get hd
    have hq := (le.frz _ _ hp).sql
    refine ⟨⟨vs, v, hq, hv2⟩, fun x H2 hx => ?_⟩
    obtain ⟨rfl, hx⟩ := hx
    have := hx vs hq
    rw [hv2] at this
    cases this
    exact ⟨Le.refl, hc, rv⟩
  · intro i α' h' H' le hc ok hl
    exact ⟨vs, (le.frz _ _ hp).sql, by rw [← r.length]; exact hl⟩
theorem its_tup {q : Addr} {ds : List D} {vs : List V} (hp : SqT W.K H q vs) (r : Reps W.K α H ds vs) : ItS W α H ⟨ds, []⟩ (Itt W.K q) := by
  constructor
  · intro i α' h' H' d le hc ok hd
    obtain ⟨v, hv2, rv⟩ := (r.mono le).get hd
    have hq := le.tup _ _ hp
    refine ⟨⟨vs, v, hq, hv2⟩, fun x H2 hx => ?_⟩
    obtain ⟨rfl, hx⟩ := hx
    have := hx vs hq
    rw [hv2] at this
    cases this
    exact ⟨Le.refl, hc, rv⟩
  · intro i α' h' H' le hc ok hl
    exact ⟨vs, le.tup _ _ hp, by rw [← r.length]; exact hl⟩
theorem its_str {s : Txt} (os : okT s) : ItS W α H ⟨s.map fun c => .str [c], []⟩ (Its (toStr s)) := by
  constructor
  · intro i α' h' H' d le hc ok hd
    simp only [List.getElem?_map, Option.map_eq_some_iff] at hd
    obtain ⟨c, hc1, rfl⟩ := hd
    have hi := (List.getElem?_eq_some_iff.mp hc1).1
    refine ⟨by show i < (toStr s).cps.size; simpa using hi, fun x H2 hx => ?_⟩
    obtain ⟨rfl, c', hc2, rfl⟩ := hx
    have : c = c' := by
      have : s[i]? = some c' := by simpa using hc2
      rw [hc1] at this; cases this; rfl
    subst this
    exact ⟨Le.refl, hc, r_str (os.mem (List.mem_of_getElem? hc1))⟩
  · intro i α' h' H' le hc ok hl
    show (toStr s).cps.size ≤ i
    simpa using hl
theorem rng_get {lo : Int} {n : Nat} {c : Int} {i : Nat} {d : D} (e : (rng lo n c)[i]? = some d) : i < n ∧ d = .int (lo + (i : Nat) * c) := by
  unfold rng at e
  simp only [List.getElem?_map, Option.map_eq_some_iff] at e
  obtain ⟨k, hk, rfl⟩ := e
  have hi := (List.getElem?_eq_some_iff.mp hk).1
  simp only [List.length_range] at hi
  rw [List.getElem?_range hi] at hk
  cases hk
  exact ⟨hi, rfl⟩
theorem rng_len {lo : Int} {n : Nat} {c : Int} : (rng lo n c).length = n := by simp [rng]
theorem its_rng {lo : Int} {n : Nat} : ItS W α H ⟨rng lo n 1, []⟩ (Itr lo n) := by
  constructor
  · intro i α' h' H' d le hc ok hd
    obtain ⟨hi, rfl⟩ := rng_get hd
    refine ⟨hi, fun x H2 hx => ?_⟩
    obtain ⟨rfl, rfl⟩ := hx
    rw [Int.mul_one]
    exact ⟨Le.refl, hc, r_int⟩
  · intro i α' h' H' le hc ok hl
    show n ≤ i
    rw [rng_len] at hl; exact hl
theorem its_rngC {lo c : Int} {n : Nat} : ItS W α H ⟨rng lo n c, []⟩ (Itc lo c n) := by
  constructor
  · intro i α' h' H' d le hc ok hd
    obtain ⟨hi, rfl⟩ := rng_get hd
    refine ⟨hi, fun x H2 hx => ?_⟩
    obtain ⟨rfl, rfl⟩ := hx
    exact ⟨Le.refl, hc, r_int⟩
  · intro i α' h' H' le hc ok hl
    show n ≤ i
    rw [rng_len] at hl; exact hl
theorem zip_get : ∀ {s t : List D} {i : Nat} {d : D}, (zipD s t)[i]? = some d → ∃ x y, s[i]? = some x ∧ t[i]? = some y ∧ d = .tup [x, y]
  | [], t, i, d, e => by simp [zipD] at e
  | a :: s, [], i, d, e => by simp [zipD] at e
  | a :: s, b :: t, 0, d, e => by simp [zipD] at e; exact ⟨a, b, by simp, by simp, e.symm⟩
  | a :: s, b :: t, i + 1, d, e => by
    simp only [zipD, List.getElem?_cons_succ] at e ⊢
    exact zip_get e
theorem zip_len : ∀ {s t : List D} {i : Nat}, (zipD s t).length ≤ i → s.length ≤ i ∨ t.length ≤ i
  | [], t, i, e => .inl (by simp)
  | a :: s, [], i, e => .inr (by simp)
  | a :: s, b :: t, 0, e => by simp [zipD] at e
  | a :: s, b :: t, i + 1, e => by
    simp only [zipD, List.length_cons, Nat.add_le_add_iff_right] at e ⊢
    exact zip_len e
theorem its_zip {q1 q2 : Addr} {s t : List D} {vs us : List V} (h1 : SqT W.K H q1 vs) (r1 : Reps W.K α H s vs) (h2 : SqT W.K H q2 us) (r2 : Reps W.K α H t us) : ItS W α H ⟨zipD s t, []⟩ (ItzT W.K q1 q2) := by
  constructor
  · intro i α' h' H' d le hc ok hd
    obtain ⟨x, y, hx, hy, rfl⟩ := zip_get hd
    obtain ⟨v, hv, rv⟩ := (r1.mono le).get hx
    obtain ⟨u, hu, ru⟩ := (r2.mono le).get hy
    have g1 := le.tup _ _ h1
    have g2 := le.tup _ _ h2
    refine ⟨⟨vs, us, v, u, g1, g2, hv, hu⟩, fun z H2 hz => ?_⟩
    obtain ⟨T, x', y', rfl, hT, rfl, k1, k2⟩ := hz
    have e1 := k1 _ g1
    have e2 := k2 _ g2
    rw [hv] at e1; rw [hu] at e2
    cases e1; cases e2
    exact new_tup hT hc (by simp only [Reps]; exact ⟨_, _, rfl, rv, _, _, rfl, ru, rfl⟩)
  · intro i α' h' H' le hc ok hl
    refine ⟨vs, us, le.tup _ _ h1, le.tup _ _ h2, ?_⟩
    rw [← r1.length, ← r2.length]
    exact zip_len hl
/-! the rules -/
theorem qi_list (hK : W.K = X.K) (he : PE X e (semE W Wx fa)) : PI X tg e (semI W Wx (i_list fa)) :=
  (pi_list he).imp fun σ H R q => bindG (g := fun _ x h1 => match x with
    | .frz ds => Res.ok (Src.mk ds []) h1
    | .ref k => match h1[k]? with
      | some (.lst ds) => .ok ⟨ds, [(k, .lst ds)]⟩ h1
      | _ => .bad
    | _ => .bad) q fun α env x h1 v H1 c rx k => by
    cases x with
    | frz ds =>
      obtain ⟨p, vs, rfl, hp, r⟩ := of_frz rx
      exact ⟨p, rfl, ⟨vs, hK ▸ hp.sql⟩, Run.done k c.hc (hK ▸ its_frz hp r)⟩
    | ref i =>
      simp only at k
      split at k
      · rename_i e1
        obtain ⟨p, vs, ep, rfl, hp, r⟩ := lst_at c.hc rx e1
        exact ⟨p, rfl, ⟨vs, SqL.of hp⟩, Run.done k c.hc (hK ▸ its_lst ep)⟩
      · exact k.elim
    | _ => exact k.elim
theorem qi_tup (hK : W.K = X.K) (he : PE X e (semE W Wx fa)) : PI X tg e (semI W Wx (i_tup fa)) :=
  (pi_tup he).imp fun σ H R q => bindG (g := fun _ x h1 => match x with
    | .tup ds => Res.ok (Src.mk ds []) h1
    | _ => .bad) q fun α env x h1 v H1 c rx k => by
    cases x with
    | tup ds =>
      obtain ⟨p, vs, rfl, hp, r⟩ := of_tup rx
      exact ⟨p, rfl, ⟨vs, hK ▸ hp⟩, Run.done k c.hc (hK ▸ its_tup hp r)⟩
    | _ => exact k.elim
theorem qi_str (he : PE X e (semE W Wx fa)) : PI X tg e (semI W Wx (i_str fa)) :=
  (pi_str he).imp fun σ H R q => bindG (g := fun _ x h1 => match x with
    | .str s => Res.ok (Src.mk (s.map fun c => .str [c]) []) h1
    | _ => .bad) q fun α env x h1 v H1 c rx k => by
    cases x with
    | str s => exact ⟨toStr s, of_str rx, Run.done k c.hc (its_str (ok_str rx))⟩
    | _ => exact k.elim
theorem qi_rng1 (hg : Gl X "range") (hm : X.mg "range" = none) (ha : PE X a (semE W Wx fa)) (hs : starEach [a] X.env = [(false, eval a X.env)] := by rfl) (h1 : starEach [a] X.env = (false, eval a X.env) :: starEach [] X.env := by rfl) : PI X tg (.Call (.Name "range" p) [a] [] pos) (semI W Wx (i_rng1 fa)) :=
  (pi_range1 hg hm (pa_cons ha pa_nil h1) hs).imp fun σ H R q => bindG (g := fun _ x h1 => match x with
    | .int j => if -B62 ≤ j ∧ j < B62 then Res.ok (Src.mk (rng 0 j.toNat 1) []) h1 else .bad
    | _ => .bad) q fun α env x h1 v H1 c rx k => by
    cases x with
    | int j =>
      obtain ⟨hb, k⟩ := Run.ite k
      exact ⟨j, by rw [of_int rx], by simp only [B62] at hb; omega, by simp only [B62] at hb; omega, Run.done k c.hc its_rng⟩
    | _ => exact k.elim
theorem qi_rng2 (hg : Gl X "range") (hm : X.mg "range" = none) (ha : PE X a (semE W Wx fa)) (hb : PE X b (semE W Wx fb)) (hs : starEach [a, b] X.env = [(false, eval a X.env), (false, eval b X.env)] := by rfl) (hs2 : starEach [b] X.env = [(false, eval b X.env)] := by rfl)
    (h1 : starEach [a, b] X.env = (false, eval a X.env) :: starEach [b] X.env := by rfl) (h2 : starEach [b] X.env = (false, eval b X.env) :: starEach [] X.env := by rfl) : PI X tg (.Call (.Name "range" p) [a, b] [] pos) (semI W Wx (i_rng2 fa fb)) :=
  (pi_range2 hg hm (pa_cons ha (pa_cons hb pa_nil h2) h1) hs hs2).imp fun σ H R q => bindG (g := fun env x h1 => (fb env h1).bind fun y h2 => match x, y with
    | .int i, .int j => if -B62 ≤ i ∧ i < B62 ∧ -B62 ≤ j ∧ j < B62 then Res.ok (Src.mk (rng i (j - i).toNat 1) []) h2 else .bad
    | _, _ => .bad) q fun α env x h1 v H1 c rx k => bindR (g := fun y h2 => match x, y with
    | .int i, .int j => if -B62 ≤ i ∧ i < B62 ∧ -B62 ≤ j ∧ j < B62 then Res.ok (Src.mk (rng i (j - i).toNat 1) []) h2 else .bad
    | _, _ => .bad) c k fun α2 y h2 w H2 le c2 ry k2 => by
    cases x with
    | int i =>
      cases y with
      | int j =>
        obtain ⟨hb, k⟩ := Run.ite k2
        exact ⟨i, j, by rw [of_int rx, of_int ry], by simp only [B62] at hb; omega, Run.done k c2.hc its_rng⟩
      | _ => exact k2.elim
    | _ => exact k2.elim
theorem rgc {i j s : Int} (h : -B60 ≤ i ∧ i < B60 ∧ -B60 ≤ j ∧ j < B60 ∧ 0 < s ∧ s < 1073741824) : RgC i j s ((j - i + s - 1) / s).toNat := by
  simp only [B60] at h
  obtain ⟨h1, h2, h3, h4, h5, h6⟩ := h
  have sz : Builtin.Range.rangeSize i j s = (((j - i + s - 1) / s).toNat : Int) := by
    unfold Builtin.Range.rangeSize
    rw [if_pos h5]
    by_cases hij : i < j
    · rw [if_pos hij]
      have e : j - i + s - 1 = (j - i - 1) + s := by omega
      rw [e, Int.add_ediv_of_dvd_right (Int.dvd_refl s), Int.ediv_self (by omega)]
      have : 0 ≤ (j - i - 1) / s := Int.ediv_nonneg (by omega) (by omega)
      omega
    · rw [if_neg hij]
      have : (j - i + s - 1) / s ≤ 0 := by
        by_cases hz : j - i + s - 1 < 0
        · exact Int.le_of_lt (Int.ediv_neg_of_neg_of_pos hz h5)
        · rw [Int.ediv_eq_zero_of_lt (by omega) (by omega)]; omega
      omega
  refine ⟨by omega, by omega, ?_, sz⟩
  have hq : ((j - i + s - 1) / s).toNat < 9223372036854775808 := by
    have h7 : (j - i + s - 1) / s * s ≤ j - i + s - 1 := Int.ediv_mul_le _ (by omega)
    have h8 : (j - i + s - 1) / s ≤ j - i + s - 1 ∨ (j - i + s - 1) / s < 0 := by
      by_cases hz : (j - i + s - 1) / s < 0
      · exact .inr hz
      · exact .inl (Int.ediv_le_self _ (by
          by_cases hy : 0 ≤ j - i + s - 1
          · exact hy
          · exact absurd (Int.ediv_neg_of_neg_of_pos (by omega) h5) hz))
    omega
  unfold Builtin.Range.small
  rw [sz]
  simp only [Builtin.Range.rangeFitsLong, Bool.and_eq_true, Bool.or_eq_true, decide_eq_true_eq, beq_iff_eq]
  rw [if_pos h5]
  simp only [Bool.and_eq_true, decide_eq_true_eq]
  omega
theorem qi_rng3 (hg : Gl X "range") (hm : X.mg "range" = none) (ha : PE X a (semE W Wx fa)) (hb : PE X b (semE W Wx fb)) (hc : PE X c (semE W Wx fc)) (hpl : (backTo pos (starEach [b, c] X.env)).any (·.1) = false := by rfl)
    (h1 : starEach [a, b, c] X.env = (false, eval a X.env) :: starEach [b, c] X.env := by rfl) (h2 : starEach [b, c] X.env = (false, eval b X.env) :: starEach [c] X.env := by rfl) (h3 : starEach [c] X.env = (false, eval c X.env) :: starEach [] X.env := by rfl) : PI X tg (.Call (.Name "range" p) [a, b, c] [] pos) (semI W Wx (i_rng3 fa fb fc)) :=
  (pi_range3 hg hm (pa_cons ha (pa_cons hb (pa_cons hc pa_nil h3) h2) h1) h1 hpl).imp fun σ H R q => bindG (g := fun env x h1 => (fb env h1).bind fun y h2 => (fc env h2).bind fun z h3 => match x, y, z with
    | .int i, .int j, .int s => if -B60 ≤ i ∧ i < B60 ∧ -B60 ≤ j ∧ j < B60 ∧ 0 < s ∧ s < 1073741824 then Res.ok (Src.mk (rng i ((j - i + s - 1) / s).toNat s) []) h3 else .bad
    | _, _, _ => .bad) q fun α env x h1 v H1 c rx k => bindR (g := fun y h2 => (fc env h2).bind fun z h3 => match x, y, z with
    | .int i, .int j, .int s => if -B60 ≤ i ∧ i < B60 ∧ -B60 ≤ j ∧ j < B60 ∧ 0 < s ∧ s < 1073741824 then Res.ok (Src.mk (rng i ((j - i + s - 1) / s).toNat s) []) h3 else .bad
    | _, _, _ => .bad) c k fun α2 y h2 w H2 le c2 ry k2 => bindR (g := fun z h3 => match x, y, z with
    | .int i, .int j, .int s => if -B60 ≤ i ∧ i < B60 ∧ -B60 ≤ j ∧ j < B60 ∧ 0 < s ∧ s < 1073741824 then Res.ok (Src.mk (rng i ((j - i + s - 1) / s).toNat s) []) h3 else .bad
    | _, _, _ => .bad) c2 k2 fun α3 z h3 u H3 le3 c3 rz k3 => by
    cases x with
    | int i =>
      cases y with
      | int j =>
        cases z with
        | int s =>
          obtain ⟨hb, k⟩ := Run.ite k3
          exact ⟨i, j, s, _, by rw [of_int rx, of_int ry, of_int rz], rgc hb, Run.done k c3.hc its_rngC⟩
        | _ => exact k3.elim
      | _ => exact k3.elim
    | _ => exact k3.elim
theorem qi_zipT {elts : List Expr} {kk : Nat} {tpos : Pos} (hK : W.K = X.K) (hg : Gl X "zip") (hm : X.mg "zip" = none) (ha : PE X a (semE W Wx fa)) (hb : PE X b (semE W Wx fb)) (hpl : (backTo pos (starEach [b] X.env)).any (·.1) = false := by rfl)
    (h1 : starEach [a, b] X.env = (false, eval a X.env) :: starEach [b] X.env := by rfl) (h2 : starEach [b] X.env = (false, eval b X.env) :: starEach [] X.env := by rfl) : PI X (.Tuple elts kk tpos) (.Call (.Name "zip" p) [a, b] [] pos) (semI W Wx (i_zipT fa fb)) :=
  (pi_zipA hg hm (pa_cons ha (pa_cons hb pa_nil h2) h1) h1 hpl).imp fun σ H R q => bindG (g := fun env x h1 => (fb env h1).bind fun y h2 => match x, y with
    | .tup s, .tup t => Res.ok (Src.mk (zipD s t) []) h2
    | _, _ => .bad) q fun α env x h1 v H1 c rx k => bindR (g := fun y h2 => match x, y with
    | .tup s, .tup t => Res.ok (Src.mk (zipD s t) []) h2
    | _, _ => .bad) c k fun α2 y h2 w H2 le c2 ry k2 => by
    cases x with
    | tup s =>
      cases y with
      | tup t =>
        obtain ⟨p1, vs, rfl, hp1, r1⟩ := of_tup (rx.mono le)
        obtain ⟨p2, us, rfl, hp2, r2⟩ := of_tup ry
        exact ⟨p1, p2, vs, us, rfl, .inr ⟨hK ▸ hp1, hK ▸ hp2, Run.done k2 c2.hc (hK ▸ its_zip hp1 r1 hp2 r2)⟩⟩
      | _ => exact k2.elim
    | _ => exact k2.elim
end
end IR
end

section
set_option Elab.async false
set_option linter.all false
set_option autoImplicit false
set_option maxRecDepth 100000
set_option maxHeartbeats 4000000
/-! own == and !=, properties, built-ins by own methods, fields, displays with a star, three at once -/
namespace IR
open PySem PySem.Spec PyProof.Rows L2
section
variable {prog : Program} {w : World} {A : Around} {E : Value → Shared → Prop} {s : Shared} {K : PySem.W.Frag} {x y C f : Addr} {ox oy : Obj} {od oe : Option Obj}
theorem bind_ne (self : Value) : bindSpecial (.builtin "object.__ne__") self = pure (.builtin "object.__ne__", [self]) := PySem.F.slot_zip_ne.bind self
theorem ne_own {Q : Value → Shared → Prop} (hu : A.units + 1 < cLine) (X : K.In s.heap) (I : PySem.W.InstAt s.heap x ox C od) (J : PySem.W.InstAt s.heap y oy C oe) (hn : PySem.W.findIn K (.ref C) (Str.ofString "__ne__") = some (some (.builtin "object.__ne__")))
    (he : PySem.W.findIn K (.ref C) (Str.ofString "__eq__") = some (some (.ref f))) (hf : PySem.W.isFn K (.ref f) = true) (ho : PySem.W.mroIn K C (.type "object") = some true)
    (h : wpAny (model prog w) A.in1 (call (.ref f) [.ref x, .ref y]) (fun v s' => ∃ b, v = .bool b ∧ Q (.bool (!b)) s') E s) : wpAny (model prog w) A (richCompare .NotEq (.ref x) (.ref y)) Q E s := by
  have hi : PySem.W.Looks (model prog w) s.heap (isInstance (.ref x) (.type "object")) true := by
    have L := PySem.W.looks_mroIn (M := model prog w) X ho
    have T : PySem.W.Looks (model prog w) s.heap (typeOf (.ref x)) (.ref C) := I.type
    exact T.andThen L
  have body : wpAny (model prog w) A.in1 (Builtin.«object.__ne__» ⟨[.ref x, .ref y], []⟩) (fun fin s' => match fin with
      | .done fl => match fl with
        | .ret v => ∃ b, v = .bool (!b) ∧ Q (.bool (!b)) s'
        | _ => False
      | .again _ => False) E s := by
    have hu1 : A.in1.units < cLine := hu
    unfold Builtin.«object.__ne__»
    repeat (first
      | with_reducible refine wpAny_cRoomFor hu1 ?_
      | (refine wpAny_bind (m := callSpecialIfBound? (.ref x) (Str.ofString "__eq__") [.ref y])
          (PySem.W.ifBound_K X I he hf (wpAny_mono h (fun r s' hr => by
            obtain ⟨b, rfl, hq⟩ := hr
            repeat (first | exact ⟨b, rfl, hq⟩ | exact wpAny_pure ⟨b, rfl, hq⟩ | exact wpAny_truthy_bool ⟨b, rfl, hq⟩ | (refine wpAny_bind (m := truthy (.bool _)) (wpAny_truthy_bool ?_)) | wp_step)) fun _ _ e => e)))
      | wp_step)
  have one : wpAny (model prog w) A (tryCompare (.ref x) (cmpInfo .NotEq).2.1 (.ref y)) (fun r s' => ∃ v, r = some v ∧ Q v s') E s := by
    unfold tryCompare
    refine wpAny_bind ?_
    simp only [callSpecialIfBound?, bindSpecialIfBound?]
    refine wpAny_holding (wpAny_bind (wpAny_bind (wpAny_bind (I.type.here ((PySem.W.looks_findIn X hn).here ?_)))))
    simp only [bind_ne]
    refine wpAny_bind (wpAny_askSetting (wpAny_ite ?_))
    have fin : wpAny (model prog w) A (call (.builtin "object.__ne__") ([.ref x] ++ [.ref y]) >>= fun v => pure (some v)) (fun r s' => wpAny (model prog w) A (match r with
        | some .notImplemented | none => pure none
        | some v => pure (some v)) (fun r s' => ∃ v, r = some v ∧ Q v s') E s') E s := by
      refine wpAny_bind (wpAny_call (codeAny_call_builtin PySem.F.slot_zip_ne.plain PySem.F.cmpEntry_ne (PySem.W.check_slot PySem.F.cmpKind_ne PySem.F.cmpSplit_ne hi (PySem.F.cmpArgs_ne _ _) (wpAny_mono body (fun fin s' hf => ?_) fun _ _ e => e))))
      cases fin with
      | done fl =>
        cases fl with
        | ret v =>
          obtain ⟨b, rfl, q⟩ := hf
          exact wpAny_pure (wpAny_pure ⟨_, rfl, q⟩)
        | _ => exact hf.elim
      | again _ => exact hf.elim
    split
    · exact wpAny_bind (wpAny_pure (wpAny_pure fin))
    · exact wpAny_tryCatch (wpAny_bind (wpAny_pure (wpAny_pure fin)))
  unfold richCompare
  simp only [oneThing_ref]
  refine wpAny_holding (wpAny_bind (wpAny_cRoomFor (Nat.lt_of_succ_lt hu) ?_))
  refine wpAny_bind (I.type.here (wpAny_bind (J.type.here ?_)))
  rw [show (Value.ref C != Value.ref C) = false from by simp]
  simp only [Bool.false_eq_true, if_false]
  refine wpAny_bind (wpAny_pure ?_)
  simp only [Bool.false_eq_true, if_false]
  refine wpAny_bind (wpAny_mono one (fun r s' hr' => ?_) fun _ _ e => e)
  obtain ⟨v, rfl, hq⟩ := hr'
  exact wpAny_pure hq
end
end IR
end

section
set_option Elab.async false
set_option linter.all false
set_option autoImplicit false
set_option maxRecDepth 100000
set_option maxHeartbeats 4000000
namespace IR
open PySem PySem.Spec PyProof.Rows L2
section
variable {X : Cx} {W : Wd} {Wx : WX} {k : Nat} {f : Addr} {fd : FuncData} {ps : List Str} {g : OL} {σ : L2.St} {H : Hp} {s : Shared} {Q : VK} {pins : List (Addr × Obj)} {a b c e o value : Expr} {fa fb fc fo : SE} {pos pos' : Pos} {α : List Addr} {h : IR.Heap} {E : XK} {us : List Value} {zs : List V} {es : List Expr} {ga : SA}
abbrev X0 : XK := fun _ _ _ => False
/-- a def run further in, without errors -/
theorem run_at {A' : Around} {E' : Value → Shared → Prop} (F : FnG X.prog X.w X.K X.mg X.base k f fd ps (spG W g)) (hr : Room k A') (hn : NoG A') (bd : Binds X.K fd ps []) (I : L2.Inv X pins σ H s) (e0 : Env0 X.prog X.w X.K X.mg X.base A' X.stack s H) (r : Vals zs us) (h : spG W g zs H Q X0) :
    wpAny (model X.prog X.w) A' (call (.ref f) us) (EP X pins σ Q) E' s := by
  have hl : (us ++ []).length = ps.length := by rw [List.append_nil, ← r.length]; exact F.len _ _ _ _ h
  have bb := bd s us I.kIn hl
  rw [List.append_nil] at bb
  refine wpAny_call (codeAny_mono (F.run A' X.stack s H ⟨us, []⟩ us zs Q X0 hr hn e0 bb r h) fun r s' hq => ?_)
  cases r with
  | error e =>
    obtain ⟨_, _, _, _, _, _, _, _, _, _, _, _, z⟩ := hq
    exact z.elim
  | ok fl =>
    cases fl with
    | ret u => exact I.after hq
    | next => exact hq.elim
    | brk => exact hq.elim
    | cont => exact hq.elim
theorem noX0 {r : Res D} (q : Run W (RV W) E α H Q (noX r)) : Run W (RV W) X0 α H Q r := noX_E q
/-- != of two of a class -/
theorem q_neOwn {cc fn : Nat} {κ : Kap} (hK : W.K = X.K) (hn' : PySem.W.findIn X.K (.ref (W.cl cc)) (Str.ofString "__ne__") = some (some (.builtin "object.__ne__"))) (he : PySem.W.findIn X.K (.ref (W.cl cc)) (Str.ofString "__eq__") = some (some (.ref f))) (isf : PySem.W.isFn X.K (.ref f) = true) (ho : PySem.W.mroIn X.K (W.cl cc) (.type "object") = some true)
    (F : FnG X.prog X.w X.K X.mg X.base k f fd ps (spG W (κ.ini fn))) (bd : Binds X.K fd ps []) (hr : Room (k + 1) X.A) (hn : NoG X.A) (ha : PE X a (semE W Wx fa)) (hb : PE X b (semE W Wx fb)) (hm : behindInMarks .NotEq b = false := by rfl) :
    PE X (.Compare a [.NotEq] [b] pos) (semE W Wx (e_2 (o_ncmp κ cc fn) fa fb)) :=
  ⟨fun pins s σ H Q I hq => wpAny_Compare1 (bin ha hb I (sem_2V hq) fun v u s2 x y H2 I2 rx ry q => by
    obtain ⟨α, h, dx, dy, hc, r1, r2, q⟩ := q
    unfold o_ncmp at q
    split at q
    · rename_i e
      obtain ⟨p, ox, od, rfl, rfl, J⟩ := ins_at hc r1 e.1 I2 rx
      obtain ⟨p2, oy, oe, rfl, rfl, J2⟩ := ins_at hc r2 e.2 I2 ry
      show wpAny _ _ (richCompare .NotEq (.ref p) (.ref p2)) _ _ _
      refine ne_own hr.in1.units0 I2.kIn J J2 hn' he isf ho ?_
      refine wpAny_mono (run_at (zs := [V.ref p, V.ref p2]) (Q := fun z H' => ∃ b, z = .bl b ∧ Q (.bl (!b)) H') F hr.in1 hn bd I2 I2.env0.in1 (.cons rfl (.cons rfl .nil)) ⟨α, [dx, dy], h, hc, by simp only [Reps]; exact ⟨_, _, rfl, r1, _, _, rfl, r2, rfl⟩, ?_⟩) (fun z s' hz => ?_) fun _ _ z => z
      · cases e1 : κ.ini fn [dx, dy] h with
        | bad => rw [e1] at q; exact q
        | exc c1 d h' => rw [e1] at q; exact q.elim
        | ok z h1 =>
          rw [e1] at q
          simp only [noX_ok, Res.bind_ok] at q
          obtain ⟨b, eb, q⟩ := Run.lift q
          exact fun α' H' u l hc' ru => ⟨b, rep_bl eb ru, q α' H' (.bl (!b)) l hc' r_bl⟩
      · obtain ⟨z', H', I', rz, b, rfl, qb⟩ := hz
        cases (show z = Value.bool b from rz)
        exact ⟨b, rfl, .bl (!b), H', I', rfl, qb⟩
    · exact q.elim) hm⟩
/-- o.f, a property -/
theorem q_prop {cc fn : Nat} {κ : Kap} {nm : Str} {pa : Addr} (hK : W.K = X.K) (cl : Cls X.K (W.cl cc)) (hp : PropOf X.K (W.cl cc) nm pa f) (F : FnG X.prog X.w X.K X.mg X.base k f fd ps (spG W (κ.ini fn))) (bd : Binds X.K fd ps []) (hr : Room (k + 1) X.A) (hn : NoG X.A) (ho : PE X o (semE W Wx fo))
    (hab : attributeBase o nm X.env (eval o X.env) = eval o X.env := by rfl) : PE X (.Attribute o nm pos) (semE W Wx (e_prop κ cc fn fo)) := by
  refine ⟨fun pins s σ H Q I h => ?_⟩
  have h' : semE W Wx fo σ H fun v H1 => ∃ α x h1, HCorr W α h1 H1 ∧ Rep W.K α H1 x v ∧ Run W (RV W) (WE Wx σ) α H1 Q (if clsD h1 x = some cc then noX (κ.ini fn [x] h1) else .bad) :=
    bindG (g := fun env x h1 => if clsD h1 x = some cc then noX (κ.ini fn [x] h1) else .bad) h fun α env x h1 v H1 c rx k => ⟨α, x, h1, c.hc, rx, k⟩
  refine attr_of hab (thn (ho.run pins s σ H _ I h') fun u s1 ⟨v, H1, I1, rx, α, x, h1, hc, rv, q⟩ => ?_)
  obtain ⟨ec, q⟩ := Run.ite q
  obtain ⟨p, ox, od, rfl, rfl, J⟩ := ins_at hc rv ec I1 rx
  obtain ⟨rest, hrec⟩ := hp.rec_
  have I2 := I1.tok (s1.toks + 1)
  have hcs : (PySem.W.clsIn X.K (W.cl cc)).isSome = true := by
    obtain ⟨cd, hcd, _⟩ := PySem.W.any_some cl.hd
    rw [hcd]; rfl
  have hl : ([Value.ref p] ++ []).length = ps.length := by
    rw [← F.len [V.ref p] H1 Q X0 ⟨α, [x], h1, hc, by simp only [Reps]; exact ⟨_, _, rfl, rv, rfl⟩, noX0 q⟩]; rfl
  refine PySem.W.get_bind I1.kIn J (PySem.W.plainGet_of (cl.get nm)).1 (PySem.W.findObj_data hcs hp.at_ hp.get hp.tak) (PySem.W.plainGet_of (cl.get nm)).2 (wpAny_call (PySem.W.prop_get (s := { s1 with toks := s1.toks + 1 }) I1.kIn hrec ?_))
  refine codeAny_mono (F.run X.A.in1 X.stack { s1 with toks := s1.toks + 1 } H1 ⟨[.ref p], []⟩ [.ref p] [.ref p] Q X0 hr.in1 hn I2.env0.in1 (bd _ [.ref p] I2.kIn hl) (.cons rfl .nil) ⟨α, [x], h1, hc, by simp only [Reps]; exact ⟨_, _, rfl, rv, rfl⟩, noX0 q⟩) fun r s' hq => ?_
  cases r with
  | error er =>
    obtain ⟨_, _, _, _, _, _, _, _, _, _, _, _, z⟩ := hq
    exact z.elim
  | ok fl =>
    cases fl with
    | ret u =>
      obtain ⟨v, H', I3, rv, q3⟩ := I2.after hq
      show wpAny _ _ (handedOut u) _ _ _
      rw [PySem.W.handedOut_of (handed_of rv)]
      exact wpAny_pure ⟨v, H', I3, rv, q3⟩
    | next => exact False.elim hq
    | brk => exact False.elim hq
    | cont => exact False.elim hq
/-- abs(x), x of a class -/
theorem s_absOwn {cc fn : Nat} {κ : Kap} (hK : W.K = X.K) (at_ : PySem.W.findIn X.K (.ref (W.cl cc)) (Str.ofString "__abs__") = some (some (.ref f))) (isf : PySem.W.isFn X.K (.ref f) = true) (F : FnG X.prog X.w X.K X.mg X.base k f fd ps (spG W (κ.low fn))) (bd : Binds X.K fd ps []) (hr : Room (k + 1) X.A) (hn : NoG X.A) :
    CallR X (.builtin "abs") (fun zs H Q => ∃ α h xs, HCorr W α h H ∧ Reps W.K α H xs zs ∧ Run W (RV W) X0 α H Q (o_low κ cc fn xs h)) := by
  intro pins s σ H zs us Q I r ⟨α, h, xs, hc, rx, q⟩
  unfold o_low at q
  split at q
  · obtain ⟨v, rfl, rv⟩ := rep1 rx
    obtain ⟨ec, q⟩ := Run.ite q
    obtain ⟨u, rfl, ru⟩ := vals1 r
    obtain ⟨p, ox, od, rfl, rfl, J⟩ := ins_at hc rv ec I ru
    exact abs_own I.kIn J at_ isf (run_at (zs := [V.ref p]) F hr.in1 hn bd I I.env0.in1 (.cons rfl .nil) ⟨α, _, h, hc, rx, noX0 q⟩)
  · exact q.elim
theorem s_boolOwn {cc fn : Nat} {κ : Kap} (hK : W.K = X.K) (at_ : PySem.W.findIn X.K (.ref (W.cl cc)) (Str.ofString "__bool__") = some (some (.ref f))) (isf : PySem.W.isFn X.K (.ref f) = true) (F : FnG X.prog X.w X.K X.mg X.base k f fd ps (spG W (κ.low fn))) (bd : Binds X.K fd ps []) (hr : Room (k + 2) X.A) (hn : NoG X.A) :
    CallR X (.type "bool") (fun zs H Q => ∃ α h xs, HCorr W α h H ∧ Reps W.K α H xs zs ∧ Run W (RV W) X0 α H Q ((o_low κ cc fn xs h).bind fun v h1 => (liftO (asB v) h1).bind okB)) := by
  intro pins s σ H zs us Q I r ⟨α, h, xs, hc, rx, q⟩
  unfold o_low at q
  split at q
  · rename_i x
    obtain ⟨v, rfl, rv⟩ := rep1 rx
    by_cases ec : clsD h x = some cc
    · rw [if_pos ec] at q
      obtain ⟨u, rfl, ru⟩ := vals1 r
      obtain ⟨p, ox, od, rfl, rfl, J⟩ := ins_at hc rv ec I ru
      refine bool_own I.kIn J at_ isf (wpAny_mono (run_at (zs := [V.ref p]) (Q := fun z H' => ∃ b, z = .bl b ∧ Q (.bl b) H') F hr.in1.in1 hn bd I I.env0.in1.in1 (.cons rfl .nil) ⟨α, _, h, hc, rx, ?_⟩) (fun z s' hz => ?_) fun _ _ z => z)
      · cases e1 : κ.low fn [x] h with
        | bad => rw [e1] at q; exact q
        | exc c1 d h' => rw [e1] at q; exact q.elim
        | ok z h1 =>
          rw [e1] at q
          simp only [noX_ok, Res.bind_ok] at q
          obtain ⟨b, eb, q⟩ := Run.lift q
          exact fun α' H' u l hc' ru => ⟨b, rep_bl eb ru, q α' H' (.bl b) l hc' r_bl⟩
      · obtain ⟨z', H', I', rz, b, rfl, qb⟩ := hz
        cases (show z = Value.bool b from rz)
        exact ⟨b, rfl, .bl b, H', I', rfl, qb⟩
    · rw [if_neg ec] at q; exact q.elim
  · exact q.elim
theorem noX_noX {β : Type} (r : Res β) : noX (noX r) = noX r := by cases r <;> rfl
theorem low_noX {κ : Kap} {cc fn : Nat} {xs : List D} {h : IR.Heap} : o_low κ cc fn xs h = noX (o_low κ cc fn xs h) := by
  unfold o_low
  split
  · split
    · rw [noX_noX]
    · rfl
  · rfl
theorem bown_noX {κ : Kap} {cc fn : Nat} {xs : List D} {h : IR.Heap} : b_own (o_low κ cc fn) xs h = noX (b_own (o_low κ cc fn) xs h) := by
  unfold b_own
  rw [low_noX]
  cases o_low κ cc fn xs h with
  | ok v h1 =>
    simp only [noX_ok, Res.bind_ok]
    cases asB v <;> rfl
  | exc c v h1 => rfl
  | bad => rfl
variable {x : Str} {p : Pos}
theorem q_absOwn {cc fn : Nat} {κ : Kap} (hK : W.K = X.K) (hx : x = "abs") (at_ : PySem.W.findIn X.K (.ref (W.cl cc)) (Str.ofString "__abs__") = some (some (.ref f))) (isf : PySem.W.isFn X.K (.ref f) = true) (F : FnG X.prog X.w X.K X.mg X.base k f fd ps (spG W (κ.low fn))) (bd : Binds X.K fd ps []) (hr : Room (k + 3) X.A) (hn : NoG X.A) (hg : Gl X x) (hm : X.mg x = none) (ha : PA X (e :: es) (semA W Wx ga))
    (he : starEach (e :: es) X.env = (false, eval e X.env) :: starEach es X.env := by rfl) (hpl : (backTo pos (starEach es X.env)).any (·.1) = false := by rfl) : PE X (.Call (.Name x p) (e :: es) [] pos) (semE W Wx (e_call (o_low κ cc fn) ga)) := by
  subst hx
  refine (pe_callB (s_absOwn hK at_ isf F bd (hr.mono (by omega)) hn) hg hm (by rfl) ha (by decide) (by decide) he hpl).imp fun σ H Q q => bindG (g := fun env xs h1 => o_low κ cc fn xs h1) q fun α env xs h1 vs H1 c rx k => ?_
  rw [low_noX] at k
  have k2 := noX0 k
  exact ⟨α, h1, xs, c.hc, rx, k2⟩
theorem q_boolOwn {cc fn : Nat} {κ : Kap} (hK : W.K = X.K) (hx : x = "bool") (at_ : PySem.W.findIn X.K (.ref (W.cl cc)) (Str.ofString "__bool__") = some (some (.ref f))) (isf : PySem.W.isFn X.K (.ref f) = true) (F : FnG X.prog X.w X.K X.mg X.base k f fd ps (spG W (κ.low fn))) (bd : Binds X.K fd ps []) (hr : Room (k + 3) X.A) (hn : NoG X.A) (hg : Gl X x) (hm : X.mg x = none) (ha : PA X (e :: es) (semA W Wx ga))
    (he : starEach (e :: es) X.env = (false, eval e X.env) :: starEach es X.env := by rfl) (hpl : (backTo pos (starEach es X.env)).any (·.1) = false := by rfl) : PE X (.Call (.Name x p) (e :: es) [] pos) (semE W Wx (e_call (b_own (o_low κ cc fn)) ga)) := by
  subst hx
  refine (pe_callTy (s_boolOwn hK at_ isf F bd (hr.mono (by omega)) hn) hg hm (by rfl) ha (by decide) (by decide) he hpl).imp fun σ H Q q => bindG (g := fun env xs h1 => b_own (o_low κ cc fn) xs h1) q fun α env xs h1 vs H1 c rx k => ?_
  rw [bown_noX] at k
  have k2 := noX0 k
  exact ⟨α, h1, xs, c.hc, rx, k2⟩
end
end IR
end

section
set_option Elab.async false
set_option linter.all false
set_option autoImplicit false
set_option maxRecDepth 100000
set_option maxHeartbeats 4000000
namespace IR
open PySem PySem.Spec PyProof.Rows L2 StX
section
variable {X : Cx} {W : Wd} {Wx : WX} {k : Nat} {f : Addr} {fd : FuncData} {ps : List Str} {g : OL} {σ : L2.St} {H : Hp} {s : Shared} {Q : VK} {pins : List (Addr × Obj)} {a b c e o value : Expr} {fa fb fc fo : SE} {pos pos' : Pos} {α : List Addr} {h : IR.Heap} {E : XK} {us : List Value} {zs : List V} {es : List Expr} {ga : SA}
theorem put_len (f : String) (d : D) : ∀ fs : List (String × D), (s_attr.putF f d fs).length ≤ fs.length + 1
  | [] => by simp [s_attr.putF]
  | (g, x) :: r => by
    have := put_len f d r
    simp only [s_attr.putF]
    split <;> simp <;> omega
theorem fields_put (inj : ∀ a b, W.fld a = W.fld b → a = b) {f : String} {d : D} {v : V} {α : List Addr} {H : Hp} (rd : Rep W.K α H d v) : ∀ {fs : List (String × D)} {vs : List V}, Reps W.K α H (fs.map (·.2)) vs →
    ∃ vs', putF (W.fld f) v (fields W fs vs) = fields W (s_attr.putF f d fs) vs' ∧ Reps W.K α H ((s_attr.putF f d fs).map (·.2)) vs'
  | [], vs, r => by
    simp only [List.map_nil, Reps] at r
    subst r
    exact ⟨[v], by simp [fields, s_attr.putF, putF], by simp only [s_attr.putF, List.map_cons, List.map_nil, Reps]; exact ⟨_, _, rfl, rd, rfl⟩⟩
  | (g, y) :: fs, vs, r => by
    simp only [List.map_cons, Reps] at r
    obtain ⟨u, rs, rfl, ru, rr⟩ := r
    by_cases hf : g = f
    · subst hf
      refine ⟨v :: rs, by simp [fields, s_attr.putF, putF], ?_⟩
      simp only [s_attr.putF, if_true, List.map_cons, Reps]
      exact ⟨_, _, rfl, rd, rr⟩
    · have h2 : ¬ W.fld g = W.fld f := fun z => hf (inj _ _ z)
      obtain ⟨vs', e1, e2⟩ := fields_put inj rd rr
      refine ⟨u :: vs', ?_, ?_⟩
      · unfold fields at e1 ⊢
        simp only [List.map_cons, List.zip_cons_cons, putF, if_neg h2, s_attr.putF, if_neg hf]
        rw [e1]
      · simp only [s_attr.putF, if_neg hf, List.map_cons, Reps]
        exact ⟨_, _, rfl, ru, e2⟩
/-- o.f = e -/
theorem q_attr {fn : String} (hK : W.K = X.K) (inj : ∀ a b, W.fld a = W.fld b → a = b) (hcl : ∀ c, ClsOk W c) (hna : ∀ c, NoAttr W.K (W.cl c) (W.fld fn)) (ho : PE X o (semE W Wx fo)) (hv : PE X value (semE W Wx fa)) (hs : swapsWith value (some (.Attribute o (W.fld fn) pos')) pos.line X.env = pure false := by rfl) :
    PS X (.Assign [.Attribute o (W.fld fn) pos'] value pos) (semS W Wx (s_attr fn fo fa)) :=
  (ps_fld ho hv hs).imp fun De σ H q => toG (R := RV W) (g := fun env v h1 => (fo env h1).to env fun x h2 => match x with
  | .ref k => match h2[k]? with
    | some (.ins c fs) => if fs.length < 500 then .nx env (h2.set k (.ins c (s_attr.putF fn v fs))) else .bad
    | _ => .bad
  | _ => .bad) q fun α env d h1 v H1 c rd k1 => toR (R := RV W) (g := fun x h2 => match x with
  | .ref k => match h2[k]? with
    | some (.ins c fs) => if fs.length < 500 then .nx env (h2.set k (.ins c (s_attr.putF fn d fs))) else .bad
    | _ => .bad
  | _ => .bad) c k1 fun α2 x h2 w H2 le c2 rx k2 => by
    cases x with
    | ref i =>
      simp only at k2
      split at k2
      · rename_i cc fs e1
        split at k2
        · rename_i hz
          obtain ⟨p, ep, rfl⟩ := of_ref rx
          obtain ⟨dx, vs, hp, r⟩ := c2.hc.ob i _ p e1 ep
          have hl : (fields W fs vs).length = fs.length := by
            unfold fields
            rw [List.length_zip, List.length_map, ← r.length, List.length_map, Nat.min_self]
          refine ⟨p, W.cl cc, dx, _, rfl, hp, hK ▸ (hcl cc).cl, hK ▸ hna cc, by rw [hl]; omega, ?_⟩
          obtain ⟨vs', e2, r2⟩ := fields_put inj (f := fn) (Rep.mono le rd) r
          rw [e2]
          obtain ⟨lw, hw⟩ := write_obj (lo' := .ins cc (s_attr.putF fn d fs)) (o' := .ins (W.cl cc) dx (fields W (s_attr.putF fn d fs) vs')) c2.hc e1 ep (fun {H'} l e => ⟨dx, vs', e, r2.mono l⟩)
          exact k2 _ _ _ lw (c2.later lw hw)
        · exact k2.elim
      · exact k2.elim
    | _ => exact k2.elim
/-- *e in a display -/
theorem qa_star {p : Pos} (hK : W.K = X.K) (ha : PE X a (semE W Wx fa)) (hr : PA X es (semA W Wx ga)) (hs : starEach (.Starred a p :: es) X.env = (true, eval a X.env) :: starEach es X.env := by rfl) : PA X (.Starred a p :: es) (semA W Wx (a_star fa ga)) :=
  (pa_star ha hr hs).imp fun σ H Q q => bindG (g := fun env x h1 => (liftO (items h1 x) h1).bind fun ds h1 => (ga env h1).bind fun xs h2 => Res.ok (ds ++ xs) h2) q fun α env x h1 v H1 c rx k => by
    obtain ⟨ds, e1, k⟩ := Run.lift k
    obtain ⟨p, vs, rfl, hp, r⟩ := items_at c.hc rx e1
    refine ⟨p, vs, rfl, hK ▸ hp.symm, bindR (g := fun xs h2 => Res.ok (ds ++ xs) h2) c k fun α2 xs h2 us H2 le c2 rxs k2 => Run.done (v := vs ++ us) k2 c2.hc ((r.mono le).append rxs)⟩
/-- a, b, c = e1, e2, e3 -/
theorem q_par3 (i j l : Nat) {x y z : Str} {px py pz pt : Pos} {kt k2 pt2} (hc : X.calm = true) (hN : X.N.Nodup) (ha : PE X a (semE W Wx fa)) (hb : PE X b (semE W Wx fb)) (hcc : PE X c (semE W Wx fc))
    (hw : swappedStores [.Tuple [.Name x px, .Name y py, .Name z pz] kt pt] (.Tuple [a, b, c] k2 pt2) X.env = pure (some [x, y, z])) (hi : X.N[i]? = some x := by rfl) (hj : X.N[j]? = some y := by rfl) (hl : X.N[l]? = some z := by rfl) (hij : i ≠ j := by decide) (hil : i ≠ l := by decide) (hjl : j ≠ l := by decide)
    (hx : X.env.scope.names.lookup x = some .local := by rfl) (hy : X.env.scope.names.lookup y = some .local := by rfl) (hz : X.env.scope.names.lookup z = some .local := by rfl)
    (hs : swapsWithSole [.Tuple [.Name x px, .Name y py, .Name z pz] kt pt] (.Tuple [a, b, c] k2 pt2) pos.line X.env = pure false := by rfl)
    (h1 : starEach [a, b, c] X.env = (false, eval a X.env) :: starEach [b, c] X.env := by rfl) (h2 : starEach [b, c] X.env = (false, eval b X.env) :: starEach [c] X.env := by rfl) (h3 : starEach [c] X.env = (false, eval c X.env) :: starEach [] X.env := by rfl) :
    PS X (.Assign [.Tuple [.Name x px, .Name y py, .Name z pz] kt pt] (.Tuple [a, b, c] k2 pt2) pos) (semS W Wx (s_par3 i j l fa fb fc)) :=
  (ps_par3 hc hN hi hj hl hij hil hjl hx hy hz (qa_cons ha (qa_cons hb (qa_cons hcc qa_nil h3) h2) h1) hw hs).imp fun De σ H ⟨α, env, h, c, q⟩ => by
    simp only [s_par3] at q
    refine ⟨α, env, h, c, ?_⟩
    simp only [a_cons, a_nil]
    cases e : fa env h with
    | bad => rw [e] at q; exact q
    | exc c1 d h' => rw [e] at q; exact fun α' H' dx v le hc r x => q α' σ H' dx v le (c.later le hc) r x
    | ok z h1 =>
      rw [e] at q
      simp only [Res.to_ok] at q
      simp only [Res.bind_ok]
      cases e2 : fb env h1 with
      | bad => rw [e2] at q; exact q
      | exc c1 d h' => rw [e2] at q; exact fun α' H' dx v le hc r x => q α' σ H' dx v le (c.later le hc) r x
      | ok z2 h2 =>
        rw [e2] at q
        simp only [Res.to_ok] at q
        simp only [Res.bind_ok]
        cases e3 : fc env h2 with
        | bad => rw [e3] at q; exact q
        | exc c1 d h' => rw [e3] at q; exact fun α' H' dx v le hc r x => q α' σ H' dx v le (c.later le hc) r x
        | ok z3 h3 =>
          rw [e3] at q
          simp only [Res.to_ok] at q
          intro α' H' vs le hc r
          simp only [RL, Reps] at r
          obtain ⟨v, r1, rfl, rv, w, r2, rfl, rw', u, r3, rfl, ru, rfl⟩ := r
          exact ⟨v, w, u, rfl, q α' _ H' le ((((c.later le hc).set rv).set rw').set ru)⟩
/-- name += e, of ints -/
theorem ip_gen {op : O2} {r : TIp} (hs : O2S W op r) {i : Nat} {De : Ends} (q : semS W Wx (s_aug i op fa) De σ H) : tAug i (semE W Wx fa) r De σ H := by
  obtain ⟨α, env, h, c0, q⟩ := q
  simp only [s_aug] at q
  split at q
  · rename_i d0 e0
    obtain ⟨v0, ev, rv⟩ := c0.en i d0 e0
    refine ⟨v0, ev, ?_⟩
    refine toR (R := RV W) (g := fun y h1 => (op d0 y h1).to env fun z h2 => .nx (env.set i (some z)) h2) c0 q fun α' y h1 w H1 le c1 ry k1 => ?_
    refine hs (WE Wx σ) α' H1 h1 d0 y v0 w _ c1.hc (rv.mono le) ry ?_
    cases e1 : op d0 y h1 with
    | bad => rw [e1] at k1; exact k1.elim
    | exc c2 d h' => rw [e1] at k1; exact fun β H2 dx v l hc r x => k1 β σ H2 dx v l (c1.later l hc) r x
    | ok z h2 =>
      rw [e1] at k1
      exact fun α2 H2 v le2 hc2 r => k1 α2 _ H2 le2 ((c1.later le2 hc2).set r)
  · exact q.elim
theorem s_addI : O2S W o_addI (ipI fun i j => i + j) := by
  intro E α H h x y v w Q hc rx ry k
  cases x with
  | int i =>
    cases y with
    | int j => exact ⟨i, j, of_int rx, of_int ry, Run.done k hc r_int⟩
    | _ => exact k.elim
  | _ => exact k.elim
theorem s_subI : O2S W o_subI (ipI fun i j => i - j) := by
  intro E α H h x y v w Q hc rx ry k
  cases x with
  | int i =>
    cases y with
    | int j => exact ⟨i, j, of_int rx, of_int ry, Run.done k hc r_int⟩
    | _ => exact k.elim
  | _ => exact k.elim
theorem q_augI (i : Nat) {x : Str} {op' : Operator} {op : O2} {r : TIp} (hN : X.N.Nodup) (ip : PIp X op' r) (hs : O2S W op r) (he : PE X e (semE W Wx fa)) (hi : X.N[i]? = some x := by rfl) (hx : Loc X.env.scope x := by first | exact Or.inl rfl | exact Or.inr rfl) (hf : X.fn x = true ∨ X.env.scope.names.lookup x = some .local := by first | exact .inl rfl | exact .inr rfl | assumption) :
    PS X (.AugAssign (.Name x pos') op' e pos) (semS W Wx (s_aug i op fa)) := (ps_aug hN hi hx he ip hf).imp fun De σ H q => ip_gen hs q
/-! bool(x) of a value -/
theorem call_boolT : CallR X (.type "bool") (fun xs H Q => ∃ (a : Addr) (zs : List V), xs = [.ref a] ∧ SqT X.K H a zs ∧ Q (.bl (!zs.isEmpty)) H) := by
  intro pins s σ H zs us Q I r ⟨a, xs, e, ht, q⟩
  subst e
  obtain ⟨u, rfl, ru⟩ := vals1 r
  cases (show u = Value.ref a from ru)
  obtain ⟨its, rv, pl, hz⟩ := I.tuple ht
  have hl := line63
  have hlen := rv.length
  refine callType_codes (T := "bool") (Bi := Builtin.«object.__init__») (Q₁ := fun r s1 => ∃ b, r = Value.bool b ∧ EP X pins σ Q r s1) PySem.F.called_bool (PySem.F.typeCall_bool_1 _) PySem.F.entry_object_init ?_ ?_
  · refine codeAny_of_tree ?_
    show wpAny _ X.A.in1.in1 (do checkBuiltinCall "bool.__new__" ⟨[.type "bool", .ref a], []⟩; again (.builtin "bool.__new__" ⟨[.type "bool", .ref a], []⟩)) _ _ s
    refine wpAny_bind (wpAny_of_eq (PySem.F.newCall_bool_1 _) (wpAny_pure ⟨plainId_quiet (by decide +kernel) _, codeAny_builtin PySem.F.entry_bool_new ?_⟩))
    rw [Around.under_plainId (by decide +kernel) _]
    unfold Builtin.«bool.__new__»
    refine wpAny_bind (wpAny_of_eq (a := true) type_bool' ?_)
    refine PySem.W.KFB.if_not rfl ?_
    refine wpAny_bind (wpAny_of_eq (a := true) PySem.F.conv_sub_bool ?_)
    refine PySem.W.KFB.if_not rfl ?_
    have tr : wpAny (model X.prog X.w) X.A.in1.in1 (truthy (.ref a)) (fun b s1 => EP X pins σ Q (.bool b) s1) X.xe s := by
      refine truthy_tuple pl (by simp only [List.size_toArray]; omega) ⟨.bl (!xs.isEmpty), H, I.tok _, ?_, q⟩
      rw [isEmpty_of rv]; exact rfl
    repeat (any_goals (first | assumption | (refine wpAny_bind (m := truthy (.ref a)) (wpAny_mono tr (fun b s' hb => ?_) fun _ _ y => y)) | wp_step))
    exact ⟨b, rfl, hb⟩
  · rintro obj s1 ⟨b, rfl, hq⟩
    exact ⟨rfl, PySem.F.args_object_init_2 _ _, object_init_meets PySem.F.called_bool.init.lookup PySem.F.called_bool.made (by decide) X.prog X.w X.A.in1 _ s1 ⟨rfl, rfl, hq⟩⟩
abbrev rBoolV (K : PySem.W.Frag) : List V → Hp → VK → Prop := fun xs H Q => ((∃ i, xs = [.int i] ∧ Q (.bl (i != 0)) H) ∨ ∃ k, xs = [.bl k] ∧ Q (.bl k) H) ∨ (∃ (a : Addr) (zs : List V), xs = [.ref a] ∧ SqL K H a zs ∧ Q (.bl (!zs.isEmpty)) H) ∨ (∃ (a : Addr) (zs : List V), xs = [.ref a] ∧ SqT K H a zs ∧ Q (.bl (!zs.isEmpty)) H)
theorem call_boolV : CallR X (.type "bool") (rBoolV X.K) := by
  intro pins s σ H zs us Q I r q
  rcases q with q | q | q
  · exact call_bool1 pins s σ H zs us Q I r q
  · exact call_boolL pins s σ H zs us Q I r q
  · exact call_boolT pins s σ H zs us Q I r q
theorem empty_eq {α β : Type} {l : List α} {m : List β} (h : l.length = m.length) : (!l.isEmpty) = !m.isEmpty := by rw [isE, isE, h]
theorem s_bool : OLS W b_bool (rBoolV W.K) := by
  intro E α H h xs vs Q hc rx k
  unfold b_bool at k
  split at k
  · rename_i x
    obtain ⟨v, rfl, rv⟩ := rep1 rx
    obtain ⟨b, e, k⟩ := Run.lift k
    unfold truthB at e
    split at e
    · cases e; exact .inl (.inr ⟨_, by rw [of_bl rv], Run.done k hc r_bl⟩)
    · cases e; exact .inl (.inl ⟨_, by rw [of_int rv], Run.done k hc r_bl⟩)
    · cases e
      obtain ⟨p, vs, rfl, hp, r⟩ := of_tup rv
      exact .inr (.inr ⟨p, vs, rfl, hp, by rw [← empty_eq r.length]; exact Run.done k hc r_bl⟩)
    · cases e
      obtain ⟨p, vs, rfl, hp, r⟩ := of_frz rv
      exact .inr (.inl ⟨p, vs, rfl, hp.sql, by rw [← empty_eq r.length]; exact Run.done k hc r_bl⟩)
    · split at e
      · rename_i e1
        cases e
        obtain ⟨p, vs, _, rfl, hp, r⟩ := lst_at hc rv e1
        exact .inr (.inl ⟨p, vs, rfl, SqL.of hp, by rw [← empty_eq r.length]; exact Run.done k hc r_bl⟩)
      · cases e
    · cases e
  · exact k.elim
end
end IR
end

section
set_option Elab.async false
set_option linter.all false
set_option autoImplicit false
set_option maxRecDepth 100000
set_option maxHeartbeats 4000000
/-! a def by its body in the small semantics; all of them by levels -/
namespace IR
open PySem PySem.Spec PyProof.Rows L2
section
variable {P : Program} {w : World} {K : PySem.W.Frag} {mg : Str → Option Value} {base : PySem.Heap} {W : Wd}
/-- the errors of a def, as its caller takes them -/
abbrev wxOf (E : XK) : WX := fun c d _ H => E c d H
theorem start_corr {N : List Str} {α : List Addr} {h : IR.Heap} {H : Hp} {ds : List D} {zs : List V} {n : Nat} (hc : HCorr W α h H) (r : Reps W.K α H ds zs) (hn : N.length = n) : Corr W α (ds.map some ++ List.replicate (n - ds.length) none) h (L2.start N zs) H := by
  subst hn
  refine ⟨hc, by simp [L2.start, r.length], fun i d e => ?_⟩
  by_cases hi : i < ds.length
  · rw [List.getElem?_append_left (by simpa using hi), List.getElem?_map] at e
    cases hd : ds[i]? with
    | none => rw [hd] at e; cases e
    | some x =>
      rw [hd] at e
      cases e
      obtain ⟨v, hv, rv⟩ := r.get hd
      refine ⟨v, ?_, rv⟩
      unfold L2.start
      rw [List.getElem?_append_left (by rw [List.length_map, ← r.length]; exact hi), List.getElem?_map, hv]
      rfl
  · rw [List.getElem?_append_right (by simpa using hi)] at e
    obtain ⟨h1, h2⟩ := List.getElem?_eq_some_iff.mp e
    simp at h2
theorem run_flow {E : XK} {α : List Addr} {H : Hp} {Q : VK} {fl : IR.Flow} (q : Run W (RV W) E α H Q (match fl with
      | .rt v h' => .ok v h'
      | .nx _ h' => .ok .non h'
      | .exc c v _ h' => .exc c v h'
      | _ => .bad)) : FlowRun W (wxOf E) { nx := fun _ H' => Q .non H', rt := Q, bk := fun _ _ => False, ct := fun _ _ => False } α H fl := by
  cases fl with
  | nx env h' => exact fun α' σ' H' le c => q α' H' .non le c.hc r_non
  | rt v h' => exact q
  | bk env h' => exact q.elim
  | ct env h' => exact q.elim
  | exc c v env h' => exact fun α' σ' H' dx u le c r e => q α' H' dx u le c.hc r e
  | bad => exact q
theorem takes_def {N : List Str} {qual : Str} {scope : Scope} {f : Addr} {cd : Value} {A : Around} {outer : List PySem.Env} {s : Shared} {H : Hp} {E : XK} : Takes (cxOf (L2.CX P w) P w K mg base N qual scope f cd A outer s H E) (wxOf E) := takes_of rfl rfl rfl rfl
theorem passes_def {N : List Str} {qual : Str} {scope : Scope} {f : Addr} {cd : Value} {A : Around} {outer : List PySem.Env} {s : Shared} {H : Hp} {E : XK} : PassesOwn (model P w) (A.deeper (envOfC qual scope s.heap.objs.size f cd)) (envOfC qual scope s.heap.objs.size f cd) (cxOf (L2.CX P w) P w K mg base N qual scope f cd A outer s H E).xe := passes_of (X := cxOf (L2.CX P w) P w K mg base N qual scope f cd A outer s H E) rfl
theorem takes_none {X : Cx} : Takes X W0 := fun u s' ⟨_, _, _, _, _, _, _, _, _, _, _, _, _, _, _, _, z⟩ => z.elim
/-- THE RULE of a def -/
theorem fn_def {k : Nat} {x qual : Str} {pr : Arguments} {bd : List Stmt} {sc : Scope} {f : Addr} {fd : FuncData} {N ps : List Str} {κ : Kap} {d : Def} (F : FunD K x qual pr bd sc [] [] f fd) (S : FnScope N ps sc) (hn : N.length = d.n := by rfl) (hp : ps.length = d.np := by rfl)
    (hb : ∀ (cdv : Value) (A : Around) (outer : List PySem.Env) (s : Shared) (H : Hp) (E : XK), Room k (cxOf (L2.CX P w) P w K mg base N qual sc f cdv A outer s H E).A → NoG (cxOf (L2.CX P w) P w K mg base N qual sc f cdv A outer s H E).A →
      PSs (cxOf (L2.CX P w) P w K mg base N qual sc f cdv A outer s H E) bd (semS W (wxOf E) (d.body κ))) :
    FnG P w K mg base (k + 1) f fd ps (spG W (runDef κ d)) := by
  have len : ∀ zs H Q E, spG W (runDef κ d) zs H Q E → zs.length = ps.length := by
    rintro zs H Q E ⟨α, ds, h, hc, r, q⟩
    unfold runDef at q
    obtain ⟨e, _⟩ := Run.ite q
    rw [← r.length, e, hp]
  obtain ⟨oc, od, dV, kV, doc, pm, an, cdv, ct, osl, rfl, lk, hcd, _, _⟩ := F.ex
  refine fnG_of lk hcd S len fun A outer s H zs Q E hr hg hsp => ⟨_, hb cdv A outer s H E hr (deeper_g hg), ?_⟩
  obtain ⟨α, ds, h, hc, r, q⟩ := hsp
  unfold runDef at q
  obtain ⟨e, q⟩ := Run.ite q
  have q2 := Run.gc hc q
  refine ⟨α, _, h, start_corr hc r hn, ?_⟩
  rw [e] at *
  have q3 := run_flow q2
  rw [← e] at q3 ⊢
  rw [e] at q3 ⊢
  exact q3
/-- all of them, by levels -/
theorem levels {ad : Nat → Addr} {fdt : Nat → FuncData} {pt : Nat → List Str} (Pr : Prog)
    (step : ∀ n i d, Pr.defs i = some d → (∀ i, FnG P w K mg base (n + 3) (ad i) (fdt i) (pt i) (spG W (callF Pr (n + 3) i))) → (∀ i, FnG P w K mg base (n + 2) (ad i) (fdt i) (pt i) (spG W (callF Pr (n + 2) i))) →
      (∀ i, FnG P w K mg base n (ad i) (fdt i) (pt i) (spG W (callF Pr n i))) → FnG P w K mg base (n + 4) (ad i) (fdt i) (pt i) (spG W (runDef (kap Pr n) d))) (n : Nat) : ∀ i, FnG P w K mg base n (ad i) (fdt i) (pt i) (spG W (callF Pr n i)) := by
  induction n using Nat.strongRecOn with
  | _ n ih =>
    intro i
    have bad : callF Pr n i = (fun _ _ => .bad) → FnG P w K mg base n (ad i) (fdt i) (pt i) (spG W (callF Pr n i)) := fun e => FnG.none fun zs H Q E ⟨α, ds, h, hc, r, q⟩ => by
      rw [e] at q
      exact q
    match n, ih, bad with
    | 0, _, bad => exact bad (by funext a h; rfl)
    | 1, _, bad => exact bad (by funext a h; rfl)
    | 2, _, bad => exact bad (by funext a h; rfl)
    | 3, _, bad => exact bad (by funext a h; rfl)
    | m + 4, ih, bad =>
      cases e : Pr.defs i with
      | none => exact bad (by funext a h; simp only [callF, e])
      | some d =>
        have e2 : callF Pr (m + 4) i = runDef (kap Pr m) d := by funext a h; exact callF_succ _ _ _ _ _ _ e
        rw [e2]
        exact step m i d e (ih (m + 3) (by omega)) (ih (m + 2) (by omega)) (ih m (by omega))
end
end IR
end

section
set_option Elab.async false
set_option linter.all false
set_option autoImplicit false
set_option maxRecDepth 100000
set_option maxHeartbeats 4000000
/-! a law's end over defs that know that no repr is under way -/
namespace IR
open PySem PySem.Spec PyProof.Rows L2
theorem nog_caller : NoG callerA := rfl
section
variable {P : Program} {w : World} {K : PySem.W.Frag} {mg mb : Str → Option Value} {k : Nat} {fa q : Addr} {fd : FuncData} {x : Str} {sp : Sp} {sh : Shared} {us : List Value} {is : List Int}
abbrev Told (sh : Shared) (r : Result) (t : Shared) : Prop := r = .ok (.ret (.bool true)) ∧ OldK sh.heap t.heap ∧ t.os = sh.os ∧ AllBare t.gens
theorem end_core (KX : K.In sh.heap) (hns : sh.heap.Ns mainGlobals mg) (hb : sh.heap.Ns builtinsNs mb) (hbb : ∀ x : Str, x ≠ "__name__" → mb x = bootBuiltins x) (hlim : sh.heap.NoLimit) (hg : sh.gens = #[])
    (ha : sh.heap.get? q = some { cls := .type "list", data := .seq us.toArray }) (hr : Room k callerA) (F : ∀ base : PySem.Heap, K.In base → base.Ns mainGlobals mg → FnG P w K mg base k fa fd [x] sp) (hbind : ∀ (s : Shared) (u : Value), BindsTo s fd ⟨[u], []⟩ [(x, u)])
    (hsp : ∀ H : Hp, Only H → SqL K H q (is.map V.int) → sp [.ref q] H (fun v _ => v = .bl true) X0) {H : Hp} (hO : Only H) (hS : SqL K H q (is.map V.int)) (hok : HOk P w H sh.heap) (hA : ∀ b, H b ≠ none → b = q) (hK : H q ≠ none → K.lookup q = none) :
    codeAny (model P w) callerA (.call (.ref fa) ⟨[.ref q], []⟩) (Told sh) sh := by
  have down : ∀ {b : Addr} {o : Obj}, sh.heap.get? b = some o → H b = none → (hidT sh.heap H).get? b = some o := fun e n => hidT_get e n
  have free : ∀ {b : Addr} {o : Obj} {es : Array DictEntry} {ep : Nat}, sh.heap.get? b = some o → o.data = .dict es ep → H b = none := by
    intro b o es ep e d
    cases z : H b with
    | none => rfl
    | some u =>
      have hb2 := hA b (by rw [z]; simp)
      subst hb2
      rw [ha] at e
      cases e
      have d2 : Data.seq us.toArray _ = Data.dict es ep := d
      cases d2
  have names : ∀ {b : Addr} {m : Str → Option Value}, sh.heap.Ns b m → (hidT sh.heap H).Ns b m := by
    rintro b m ⟨o, es, ep, e, d, r⟩
    exact ⟨o, es, ep, down e (free e d), d, r⟩
  have written : K.In (hidT sh.heap H) := by
    intro b o e
    refine down (KX b o e) ?_
    cases z : H b with
    | none => rfl
    | some u =>
      have hb2 := hA b (by rw [z]; simp)
      subst hb2
      have z2 := hK (by rw [z]; simp)
      rw [z2] at e
      cases e
  obtain ⟨mc, l1, l2⟩ := hlim
  have top : Mod K mg (hidT sh.heap H) := ⟨written, names hns, ⟨mb, names hb, hbb⟩, ⟨mc, names l1, l2⟩⟩
  have e0 : Env0 P w K mg (hidT sh.heap H) callerA [] sh H := ⟨rfl, top, fun b o e => of_hidT e, Nat.le_of_eq (hidT_size _ _), trivial, (fun b hb => by cases hb), hok, AllBare.of_eq hg⟩
  have call := (F _ written (names hns)).run callerA [] sh H ⟨[.ref q], []⟩ [.ref q] [.ref q] _ _ hr nog_caller e0 (hbind sh (.ref q)) (.cons rfl .nil) (hsp H hO hS)
  refine codeAny_mono call fun r t h => ?_
  cases r with
  | error e =>
    obtain ⟨_, _, _, _, _, _, _, _, _, _, _, _, z⟩ := h
    exact z.elim
  | ok fl =>
    cases fl with
    | ret u =>
      obtain ⟨v, H2, os, bare, un, hok2, rv, e⟩ := h
      have e' : v = V.bl true := e
      subst e'
      cases (show u = Value.bool true from rv)
      refine ⟨rfl, OldK.of_keep fun b o e => ?_, os, bare⟩
      rcases hO b with z | ⟨ob, xs, z⟩
      · exact un.keep b o e z (fun y => by cases y) (by simp)
      · obtain ⟨y1, _⟩ := hok b _ z
        obtain ⟨y2, _⟩ := hok2 b _ (un.frzs b ob _ z)
        rw [e] at y1
        cases y1
        exact y2
    | next => exact h.elim
    | brk => exact h.elim
    | cont => exact h.elim
theorem end_call (KX : K.In sh.heap) (hns : sh.heap.Ns mainGlobals mg) (hb : sh.heap.Ns builtinsNs mb) (hbb : ∀ x : Str, x ≠ "__name__" → mb x = bootBuiltins x) (hlim : sh.heap.NoLimit) (hg : sh.gens = #[])
    (ha : sh.heap.get? q = some { cls := .type "list", data := .seq us.toArray }) (hi : IntsAre us is) (hl : is.length ≤ sizeLine) (hr : Room k callerA)
    (F : ∀ base : PySem.Heap, K.In base → base.Ns mainGlobals mg → FnG P w K mg base k fa fd [x] sp) (hbind : ∀ (s : Shared) (u : Value), BindsTo s fd ⟨[u], []⟩ [(x, u)])
    (hsp : ∀ H : Hp, Only H → SqL K H q (is.map V.int) → sp [.ref q] H (fun v _ => v = .bl true) X0) :
    codeAny (model P w) callerA (.call (.ref fa) ⟨[.ref q], []⟩) (Told sh) sh := by
  have rv := vals_ints hi
  have ln := hi.length
  cases hk : K.lookup q with
  | some o =>
    have e := KX q o hk
    rw [ha] at e
    cases e
    have hS : SqL K (fun _ => none) q (is.map V.int) := .inr ⟨_, us.toArray, _, hk, rfl, rfl, rfl, by rw [List.size_toArray, ln]; exact hl, by simpa using rv⟩
    exact end_core KX hns hb hbb hlim hg ha hr F hbind hsp (fun _ => .inl rfl) hS (fun b u z => by cases z) (fun b z => (z rfl).elim) fun z => (z rfl).elim
  | none =>
    have at_ : ∀ b, (if b = q then some (HO.frz { cls := .type "list", data := .seq us.toArray } (.lst (is.map V.int))) else none) ≠ none → b = q := by
      intro b z
      by_cases hb : b = q
      · exact hb
      · rw [if_neg hb] at z; exact (z rfl).elim
    refine end_core (H := fun b => if b = q then some (.frz { cls := .type "list", data := .seq us.toArray } (.lst (is.map V.int))) else none) KX hns hb hbb hlim hg ha hr F hbind hsp (fun b => ?_) (.inl (.inr ⟨_, if_pos rfl⟩)) (fun b u z => ?_) at_ fun _ => hk
    · by_cases hb : b = q
      · exact .inr ⟨_, _, if_pos hb⟩
      · exact .inl (if_neg hb)
    · have hb2 := at_ b (fun y => by cases y.symm.trans z)
      subst hb2
      have z2 := (if_pos rfl).symm.trans z
      cases z2
      exact ⟨ha, by rw [List.length_map]; exact hl, us, _, rv, ha⟩
end
/-- the law's walk -/
theorem walk_end {l : PySem.W.OpenLaw} {n k : Nat} {q : Program} {loose : List Str} {XP : (Str → Option Value) → PySem.Heap → Prop} {YP : World → PySem.Heap → Prop} {d : DefRec} {x : Str} (hn : l.most = some n) (hn2 : n ≤ sizeLine) (hdf : d.params.defaults = []) (hr : Room k callerA)
    (F : ∀ (w : World) (mg : Str → Option Value) (fa : Addr) (h : PySem.Heap), YP w h → h.Ns mainGlobals mg → mg d.name = some (.ref fa) →
      ∃ (W : Wd) (fd : FuncData) (g : OL), W.K.In h ∧ (∀ (s : Shared) (u : Value), BindsTo s fd ⟨[u], []⟩ [(x, u)]) ∧ (∀ is : List Int, is.length ≤ n → ∃ h', g [.frz (is.map .int)] [] = .ok (.bl true) h') ∧
        ∀ base : PySem.Heap, W.K.In base → base.Ns mainGlobals mg → FnG l.prog w W.K mg base k fa fd [x] (spG W g)) :
    PySem.W.WalkO q loose XP YP l.row.toRowW d [] (fun f vs => PySem.call f vs) := by
  refine Att.attach_call hn hdf fun w s₀ s₁ mg mb fa o pm cd doc a vs ns G Y ho hd hcd hmg hobj hints hlen hg => ?_
  obtain ⟨W, fd, g, KX, hb, hsp, hF⟩ := F w mg fa _ Y G.T.g hmg
  refine end_call KX G.T.g G.T.b G.T.builtins G.T.nolimit hg hobj hints (Nat.le_trans hlen hn2) hr hF hb fun H hO hS => ?_
  have itemsR : ∀ is : List Int, Reps W.K [] H (is.map .int) (is.map V.int) := by
    intro is
    induction is with
    | nil => simp only [List.map_nil, Reps]
    | cons i r ih => simp only [List.map_cons, Reps]; exact ⟨_, _, rfl, r_int, ih⟩
  have sq : SqF W.K H a (ns.map V.int) := by
    rcases hS with (z | ⟨o, z⟩) | z
    · rcases hO a with y | ⟨_, _, y⟩ <;> (rw [z] at y; cases y)
    · exact .inl ⟨o, z⟩
    · exact .inr fun _ => .inr z
  obtain ⟨h', e⟩ := hsp ns hlen
  refine ⟨[], [.frz (ns.map .int)], [], ⟨rfl, List.nodup_nil, fun i o a e => by simp at e⟩, ?_, ?_⟩
  · simp only [Reps, Rep]
    exact ⟨_, _, rfl, ⟨a, _, rfl, sq, itemsR ns⟩, rfl⟩
  · rw [e]
    exact fun α' H' c _ _ r => of_bl r
end IR
end

section
set_option Elab.async false
set_option linter.all false
set_option autoImplicit false
set_option maxRecDepth 100000
set_option maxHeartbeats 4000000
/-! the head: what is known of the written part, by booleans -/
namespace IR
open PySem PySem.Spec PyProof.Rows L2 He
/-- a def in a class -/
def clsSt : Stmt → Nat → Stmt
  | .ClassDef (body := b) .., j => b.getD j (.Pass ⟨0, 0, 0, 0⟩)
  | _, _ => .Pass ⟨0, 0, 0, 0⟩
/-- a def, wherever it stands -/
structure DefA where
  ad : PySem.W.Frag → Addr
  name : Str
  qual : Str
  params : Arguments
  body : List Stmt
  scope : Scope
def fnA (K : PySem.W.Frag) (a : Addr) : FnW := match K.lookup a with
  | some ⟨_, _, .func fd, _⟩ => some (fd.name, fd.qualname, fd.params, fd.body, fd.scope, fd.globals, fd.closure, fd.builtins)
  | _ => none
def DefA.val (d : DefA) : FnW := some (d.name, d.qual, d.params, .stmts d.body, d.scope, mainGlobals, [], builtinsNs)
def DefA.ok (K : PySem.W.Frag) (d : DefA) : Bool := PySem.W.keepIn K (.ref (d.ad K)) && (match K.lookup (d.ad K) with
  | some ⟨_, _, .func fd, _⟩ => PySem.W.codeIn K fd.code d.qual && (dflB K fd.defaults [] && kwdB K fd.kwdefaults [])
  | _ => false)
theorem DefA.fun_ {K : PySem.W.Frag} {d : DefA} (e : fnA K (d.ad K) = d.val) (c : d.ok K = true) : ∃ fd, FunD K d.name d.qual d.params d.body d.scope [] [] (d.ad K) fd := by
  obtain ⟨kp, c2⟩ := ba c
  unfold fnA at e
  cases q : K.lookup (d.ad K) with
  | none => rw [q] at c2; cases c2
  | some o =>
    obtain ⟨oc, od, dt, sl⟩ := o
    rw [q] at c2 e
    cases dt with
    | func fd =>
      obtain ⟨m1, m2, m3, m4, m5, m6, m7, m8, m9, m10, m11, m12, m13, m14, m15⟩ := fd
      have e2 : (some (m1, m2, m3, m4, m5, m6, m7, m15) : FnW) = some (d.name, d.qual, d.params, .stmts d.body, d.scope, mainGlobals, [], builtinsNs) := e
      simp only [Option.some.injEq, Prod.mk.injEq] at e2
      obtain ⟨y1, y2, y3, y4, y5, y6, y7, y8⟩ := e2
      subst y1 y2 y3 y4 y5 y6 y7 y8
      obtain ⟨k1, k2⟩ := ba (show (PySem.W.codeIn K m13 d.qual && (dflB K m8 [] && kwdB K m9 [])) = true from c2)
      obtain ⟨k3, k4⟩ := ba k2
      exact ⟨_, ⟨oc, od, m8, m9, m10, m11, m12, m13, m14, sl, rfl, q, k1, dflB_ok k3, kwdB_ok k4⟩, kp⟩
    | _ => cases c2
/-- the function object at a -/
def fdOf (K : PySem.W.Frag) (a : Addr) : FuncData := match K.lookup a with
  | some ⟨_, _, .func fd, _⟩ => fd
  | _ => PySem.W.fnOf Str.empty Str.empty (defArgs (.Pass ⟨0, 0, 0, 0⟩)) [] (defScope (.Pass ⟨0, 0, 0, 0⟩)) .none .none .none .none none .none .none
theorem fun_at {K : PySem.W.Frag} {x qual : Str} {pr : Arguments} {bd : List Stmt} {sc : Scope} {f : Addr} {fd : FuncData} (F : FunD K x qual pr bd sc [] [] f fd) : FunD K x qual pr bd sc [] [] f (fdOf K f) := by
  obtain ⟨oc, od, dV, kV, doc, pm, an, cdv, ct, osl, rfl, lk, r⟩ := F.ex
  have e : fdOf K f = PySem.W.fnOf x qual pr bd sc dV kV doc pm an cdv ct := by
    unfold fdOf
    rw [lk]
  rw [e]
  exact F
abbrev AlP : Type := Bool × List FnW
def obsP (n : Nat) (ds : List DefA) (ex : PySem.W.Frag → Bool) (g : Addr → Option Obj) : AlP := (ex (frT g (asD g n)) && ds.all (DefA.ok (frT g (asD g n))), ds.map fun d => fnA (frT g (asD g n)) (d.ad (frT g (asD g n))))
def valP (ds : List DefA) : AlP := (true, ds.map DefA.val)
structure SaysP (ds : List DefA) (ex : PySem.W.Frag → Bool) (K : PySem.W.Frag) : Prop where
  ex : ex K = true
  ok : ds.all (DefA.ok K) = true
  val : ds.map (fun d => fnA K (d.ad K)) = ds.map DefA.val
def hookP (n : Nat) (ds : List DefA) (ex : PySem.W.Frag → Bool) : PySem.W.Hook where
  α := AlP
  obs := fun s => obsP n ds ex s.heap.get?
  val := fun _ => valP ds
  says := fun _ h => ∃ K : PySem.W.Frag, K.In h ∧ SaysP ds ex K
  of := fun _ s e => by
    have e1 := congrArg (fun z : AlP => z.1) e
    have e2 := congrArg (fun z : AlP => z.2) e
    obtain ⟨h1, h2⟩ := ba e1
    exact ⟨_, frT_in, h1, h2, e2⟩
  keeps := fun _ _ _ ⟨K, hK, c⟩ k => ⟨K, PySem.W.Frag.In.keeps hK k, c⟩
theorem obsP_eq {n : Nat} {ds : List DefA} {ex : PySem.W.Frag → Bool} {g : Addr → Option Obj} {s : Shared} (h : ∀ a, g a = s.heap.get? a) : obsP n ds ex g = (hookP n ds ex).obs s := by
  have e : g = s.heap.get? := funext h
  rw [e] <;> rfl
theorem SaysP.def_ {ds : List DefA} {ex : PySem.W.Frag → Bool} {K : PySem.W.Frag} (c : SaysP ds ex K) (i : Nat) {d : DefA} (h : ds[i]? = some d := by rfl) : FunD K d.name d.qual d.params d.body d.scope [] [] (d.ad K) (fdOf K (d.ad K)) := by
  have e2 : (ds.map fun d => fnA K (d.ad K))[i]? = (ds.map DefA.val)[i]? := by rw [c.val]
  rw [List.getElem?_map, List.getElem?_map, h] at e2
  obtain ⟨fd, F⟩ := DefA.fun_ (Option.some.inj e2) (List.all_eq_true.mp c.ok d (List.mem_of_getElem? h))
  exact fun_at F
/-! booleans -/
section
variable {K : PySem.W.Frag} {C f : Addr} {nm : String}
def opB (K : PySem.W.Frag) (C f : Addr) (nm : String) : Bool :=
  PySem.W.selfFirst K C && (eqO (PySem.W.findIn K (.ref C) (PySem.dunder nm)) (some (some (.ref f))) && (PySem.W.isFn K (.ref f) && ((match PySem.W.findIn K (.ref C) (dunderR nm) with
    | some none => true
    | some (some (.ref _)) => true
    | _ => false) && ((PySem.W.findIn K (.type "str") (PySem.dunder nm)).isSome && ((PySem.W.findIn K (.type "str") (dunderR nm)).isSome && decide (PySem.W.subIn K (.type "str") (.ref C) = some false))))))
theorem opB_ok (h : opB K C f nm = true) : OpF K C f nm := by
  obtain ⟨h1, h⟩ := ba h
  obtain ⟨h2, h⟩ := ba h
  obtain ⟨h3, h⟩ := ba h
  obtain ⟨h4, h⟩ := ba h
  obtain ⟨h5, h⟩ := ba h
  obtain ⟨h6, h7⟩ := ba h
  refine ⟨h1, eqO_ok h2, h3, ?_, Option.isSome_iff_exists.mp h5, Option.isSome_iff_exists.mp h6, of_decide_eq_true h7⟩
  cases q : PySem.W.findIn K (.ref C) (dunderR nm) with
  | none => rw [q] at h4; cases h4
  | some r =>
    rw [q] at h4
    cases r with
    | none => exact ⟨none, rfl, .inl rfl⟩
    | some v =>
      cases v with
      | ref g => exact ⟨_, rfl, .inr ⟨g, rfl⟩⟩
      | _ => cases h4
def opRB (K : PySem.W.Frag) (C f : Addr) (nm : String) : Bool :=
  PySem.W.selfFirst K C && ((match PySem.W.findIn K (.ref C) (PySem.dunder nm) with
    | some (some (.ref _)) => true
    | _ => false) && (eqO (PySem.W.findIn K (.ref C) (dunderR nm)) (some (some (.ref f))) && (PySem.W.isFn K (.ref f) && (eqO (PySem.W.findIn K (.type "str") (PySem.dunder nm)) (some none) && eqO (PySem.W.findIn K (.type "str") (dunderR nm)) (some none)))))
theorem opRB_ok (h : opRB K C f nm = true) : OpRF K C f nm := by
  obtain ⟨h1, h⟩ := ba h
  obtain ⟨h2, h⟩ := ba h
  obtain ⟨h3, h⟩ := ba h
  obtain ⟨h4, h⟩ := ba h
  obtain ⟨h5, h6⟩ := ba h
  refine ⟨h1, ?_, eqO_ok h3, h4, eqO_ok h5, eqO_ok h6⟩
  cases q : PySem.W.findIn K (.ref C) (PySem.dunder nm) with
  | none => rw [q] at h2; cases h2
  | some r =>
    rw [q] at h2
    cases r with
    | none => cases h2
    | some v =>
      cases v with
      | ref g => exact ⟨g, rfl⟩
      | _ => cases h2
def opIB (K : PySem.W.Frag) (C : Addr) (nm : String) : Bool := mro2 K C && (eqO (PySem.W.findIn K (.ref C) (dunderI nm)) (some none) && eqO (PySem.W.findIn K (.type "object") (dunderI nm)) (some none))
theorem opIB_ok (h : opIB K C nm = true) : OpIF K C nm := by
  obtain ⟨h1, h⟩ := ba h
  obtain ⟨h2, h3⟩ := ba h
  exact ⟨h1, eqO_ok h2, eqO_ok h3⟩
def cmpB (K : PySem.W.Frag) (C f : Addr) (nm : Str) : Bool := eqO (PySem.W.findIn K (.ref C) nm) (some (some (.ref f))) && (PySem.W.isFn K (.ref f) && (["NoneType", "bool", "int", "str", "tuple", "list"] : List String).all fun T => PySem.W.notFirst K C (.type T))
theorem cmpB_ok {nm : Str} (h : cmpB K C f nm = true) : CmpF K C f nm := by
  obtain ⟨h1, h⟩ := ba h
  obtain ⟨h2, h3⟩ := ba h
  exact ⟨eqO_ok h1, h2, List.all_eq_true.mp h3⟩
def methB (K : PySem.W.Frag) (C f : Addr) (nm : Str) : Bool := eqO (PySem.W.findIn K (.ref C) nm) (some (some (.ref f))) && PySem.W.isFn K (.ref f)
theorem methB_ok {nm : Str} (h : methB K C f nm = true) : PySem.W.findIn K (.ref C) nm = some (some (.ref f)) ∧ PySem.W.isFn K (.ref f) = true := ⟨eqO_ok (ba h).1, (ba h).2⟩
/-- a property's getter -/
def propG (K : PySem.W.Frag) (p : Addr) : Addr := match PySem.W.recIn K p "property" with
  | some (.ref g :: _) => g
  | _ => 0
def propB (K : PySem.W.Frag) (C p : Addr) (f : Str) : Bool := eqO (PySem.W.findIn K (.ref C) f) (some (some (.ref p))) && (eqO (PySem.W.specialIn K (.ref p) "__get__") (some (some (.builtin "property.__get__"))) && (decide (PySem.W.takesIn K (.ref p) = some true) && (match PySem.W.recIn K p "property" with
  | some (.ref _ :: _) => true
  | _ => false)))
theorem propB_ok {p : Addr} {f : Str} (h : propB K C p f = true) : PropOf K C f p (propG K p) := by
  obtain ⟨h1, h⟩ := ba h
  obtain ⟨h2, h⟩ := ba h
  obtain ⟨h3, h4⟩ := ba h
  refine ⟨eqO_ok h1, eqO_ok h2, of_decide_eq_true h3, ?_⟩
  unfold propG
  cases q : PySem.W.recIn K p "property" with
  | none => rw [q] at h4; cases h4
  | some l =>
    rw [q] at h4
    cases l with
    | nil => cases h4
    | cons v r =>
      cases v with
      | ref g => exact ⟨r, rfl⟩
      | _ => cases h4
/-- instances -/
def clsB (K : PySem.W.Frag) (x : Str) : Bool := (Fa.cls x).ok K && (eqO (PySem.W.findIn K (.ref (ga K x)) (Str.ofString "__class__")) (some (some (.builtin "object.__class__"))) && (eqO (PySem.W.specialIn K (.builtin "object.__class__") (Str.ofString "__get__")) (some (some (.builtin "getset_descriptor.__get__"))) &&
  (decide (PySem.W.takesIn K (.builtin "object.__class__") = some true) && decide (PySem.W.mroIn K (ga K x) (.type "object") = some true))))
theorem clsB_ok {W : Wd} {c : Nat} {x : Str} (e : W.cl c = ga W.K x) (h : clsB W.K x = true) : ClsOk W c := by
  obtain ⟨h1, h⟩ := ba h
  obtain ⟨h2, h⟩ := ba h
  obtain ⟨h3, h⟩ := ba h
  obtain ⟨h4, h5⟩ := ba h
  exact ⟨e ▸ cls_ok h1, e ▸ eqO_ok h2, eqO_ok h3, of_decide_eq_true h4, e ▸ of_decide_eq_true h5⟩
def isaB (W : Wd) (n : Nat) (sub : Nat → Nat → Bool) (t : Ty) (u : Value) : Bool :=
  decide (PySem.W.kitOne W.K (.type "NoneType") u = some false) && (decide (PySem.W.kitOne W.K (.type "bool") u = some t.bl) && (decide (PySem.W.kitOne W.K (.type "int") u = some t.int) && (decide (PySem.W.kitOne W.K (.type "str") u = some t.str) &&
  (decide (PySem.W.kitOne W.K (.type "tuple") u = some t.tup) && (decide (PySem.W.kitOne W.K (.type "list") u = some t.lst) && (List.range (n + 1)).all fun c => decide (PySem.W.kitOne W.K (.ref (W.cl c)) u = some (t.is sub c)))))))
theorem isaB_ok {W : Wd} {n : Nat} {sub : Nat → Nat → Bool} {t : Ty} {u : Value} (hc : ∀ c, n ≤ c → W.cl c = W.cl n) (hs : ∀ c d, n ≤ c → sub c d = sub n d) (h : isaB W n sub t u = true) : IsaOk W sub t u := by
  obtain ⟨h1, h⟩ := ba h
  obtain ⟨h2, h⟩ := ba h
  obtain ⟨h3, h⟩ := ba h
  obtain ⟨h4, h⟩ := ba h
  obtain ⟨h5, h⟩ := ba h
  obtain ⟨h6, h7⟩ := ba h
  refine ⟨of_decide_eq_true h1, of_decide_eq_true h2, of_decide_eq_true h3, of_decide_eq_true h4, of_decide_eq_true h5, of_decide_eq_true h6, fun c => ?_⟩
  have key : ∀ c, c ≤ n → PySem.W.kitOne W.K (.ref (W.cl c)) u = some (t.is sub c) := fun c hcn => of_decide_eq_true (List.all_eq_true.mp h7 c (List.mem_range.mpr (by omega)))
  by_cases hl : c ≤ n
  · exact key c hl
  · rw [hc c (by omega)]
    have e : t.is sub c = t.is sub n := by
      cases t <;> first | rfl | exact hs c _ (by omega)
    rw [e]
    exact key n (Nat.le_refl _)
/-- flat constants of the top -/
def dvD : Dv → Option D
  | _ => none
theorem fld_inj {a b : String} (h : Str.ofString a = Str.ofString b) : a = b := by
  have e := congrArg (fun z : Str => z.cps.toList) h
  simp only [Str.ofString, cpsOfBytes_string] at e
  have inj : ∀ x y : Char, x.toNat = y.toNat → x = y := fun x y q => by
    apply Char.ext
    apply UInt32.toNat_inj.mp
    exact q
  have go : ∀ l m : List Char, l.map Char.toNat = m.map Char.toNat → l = m := by
    intro l
    induction l with
    | nil => intro m q; cases m with
      | nil => rfl
      | cons y m => simp at q
    | cons x l ih => intro m q; cases m with
      | nil => simp at q
      | cons y m =>
        simp only [List.map_cons, List.cons.injEq] at q
        rw [inj x y q.1, ih m q.2]
  exact String.ext (go _ _ (by simpa using e))
theorem strC {h : PySem.Heap} {mg : Str → Option Value} (X : K.In h) (G : h.Ns mainGlobals mg) {x z : Str} {s : Txt} (e : z = toStr s) (o : okT s) (c : (Fa.str x z).ok K = true) : ∃ u v, mg x = some u ∧ RelV v u ∧ ∀ α H, Rep K α H (.str s) v := by
  obtain ⟨t, hm⟩ := str_ok X G c
  exact ⟨_, .str z, hm, ⟨t, rfl⟩, fun α H => by rw [e]; exact r_str o⟩
theorem intC {h : PySem.Heap} {mg : Str → Option Value} (X : K.In h) (G : h.Ns mainGlobals mg) {x : Str} {i : Int} (c : (Fa.int x i).ok K = true) : ∃ u v, mg x = some u ∧ RelV v u ∧ ∀ α H, Rep K α H (.int i) v := by
  obtain ⟨t, hm⟩ := int_ok X G c
  exact ⟨_, .int i, hm, ⟨t, rfl⟩, fun α H => r_int⟩
theorem tupC {h : PySem.Heap} {mg : Str → Option Value} (X : K.In h) (G : h.Ns mainGlobals mg) {x : Str} {vs : List Dv} {ds : List D} (r : ∀ α H, Reps K α H ds (vs.map (Dv.v K))) (c : ((Fa.glo x).ok K && tupB K x vs) = true) : ∃ u v, mg x = some u ∧ RelV v u ∧ ∀ α H, Rep K α H (.tup ds) v := by
  obtain ⟨c1, c2⟩ := ba c
  refine ⟨_, .ref (ga K x), glo_ok X G c1, rfl, fun α H => ?_⟩
  simp only [Rep]
  exact ⟨_, _, rfl, tupB_ok c2 H, r α H⟩
theorem reps_nil {α : List Addr} {H : Hp} : Reps K α H [] ([].map (Dv.v K)) := by simp only [List.map_nil, Reps]
theorem reps_str {α : List Addr} {H : Hp} {s : Txt} {z : Str} {ds : List D} {vs : List Dv} (e : z = toStr s) (o : okT s) (r : Reps K α H ds (vs.map (Dv.v K))) : Reps K α H (.str s :: ds) ((Dv.str z :: vs).map (Dv.v K)) := by
  simp only [List.map_cons, Reps]
  exact ⟨_, _, rfl, by show Rep K α H (.str s) (.str z); rw [e]; exact r_str o, r⟩
theorem reps_int {α : List Addr} {H : Hp} {i : Int} {ds : List D} {vs : List Dv} (r : Reps K α H ds (vs.map (Dv.v K))) : Reps K α H (.int i :: ds) ((Dv.int i :: vs).map (Dv.v K)) := by
  simp only [List.map_cons, Reps]
  exact ⟨_, _, rfl, r_int, r⟩
end
end IR
end

section
set_option linter.all false
namespace K01
open IR
/-! the defs of the law and of what it reaches, in the small semantics (printed by gen.py) -/
def sub : Nat → Nat → Bool := fun c d => min c 0 == d
/-- is_name(value) : 0 value, 1 letter -/
def b_is_name (κ : Kap) : SS := s_cons (s_if (t_or (t_not (t_e (e_1 (o_isa sub .tStr) (e_var 0)))) (t_or (t_not (t_b (e_chain o_le o_le (e_c (.int 1)) (e_call b_len (a_cons (e_var 0) (a_nil))) (e_c (.int 8))))) (t_b (e_2 o_in (e_var 0) (e_c (.tup [(.str [110, 101, 120, 116]), (.str [109, 111, 114, 101]), (.str [110, 111, 116]), (.str [115, 97, 109, 101]), (.str [108, 101, 115, 115]), (.str [97, 110, 100]), (.str [111, 114])])))))) (s_ret (e_c (.bl false))) (s_nil)) (
  s_ret (e_call b_all (a_cons (e_lc (i_str (e_var 0)) (g_name 1) (t_yes) (e_2 o_in (e_var 1) (e_c (.str [97, 98, 99, 100, 101, 102, 103, 104, 105, 106, 107, 108, 109, 110, 111, 112, 113, 114, 115, 116, 117, 118, 119, 120, 121, 122]))) [1]) (a_nil))))
def d_is_name : Def := ⟨1, 2, b_is_name⟩
/-- is_ascending(rows) : 0 rows, 1 one, 2 other -/
def b_is_ascending (κ : Kap) : SS := s_ret (e_call b_all (a_cons (e_lc (i_zipT (e_var 0) (e_slice (e_var 0) (so_some (e_c (.int 1))) so_none)) (g_tup 2 (g_cons (g_name 1) (g_cons (g_name 2) (g_nil)))) (t_yes) (e_2 o_lt (e_var 1) (e_var 2)) [1, 2]) (a_nil)))
def d_is_ascending : Def := ⟨1, 3, b_is_ascending⟩
/-- merged(one, other) : 0 one, 1 other, 2 found, 3 here, 4 there -/
def b_merged (κ : Kap) : SS := s_cons (s_asg (e_lst (a_nil)) (g_name 2)) (
  s_cons (s_asg (e_c (.int 0)) (g_name 3)) (
  s_cons (s_asg (e_c (.int 0)) (g_name 4)) (
  s_cons (s_while (t_and (t_b (e_2 o_lt (e_var 3) (e_call b_len (a_cons (e_var 0) (a_nil))))) (t_b (e_2 o_lt (e_var 4) (e_call b_len (a_cons (e_var 1) (a_nil)))))) (s_if (t_b (e_2 o_lt (e_2 o_item (e_var 1) (e_var 4)) (e_2 o_item (e_var 0) (e_var 3)))) (s_cons (s_expr (e_lm m_append (e_var 2) (e_2 o_item (e_var 1) (e_var 4)))) (
  s_aug 4 o_addI (e_c (.int 1)))) (s_cons (s_expr (e_lm m_append (e_var 2) (e_2 o_item (e_var 0) (e_var 3)))) (
  s_aug 3 o_addI (e_c (.int 1)))))) (
  s_ret (e_2 o_add (e_2 o_add (e_var 2) (e_slice (e_var 0) (so_some (e_var 3)) so_none)) (e_slice (e_var 1) (so_some (e_var 4)) so_none))))))
def d_merged : Def := ⟨2, 5, b_merged⟩
/-- in_order(rows) : 0 rows, 1 parts, 2 pairs, 3 row, 4 at -/
def b_in_order (κ : Kap) : SS := s_cons (s_asg (e_lc (i_list (e_var 0)) (g_name 3) (t_yes) (e_lst (a_cons (e_var 3) (a_nil))) [3]) (g_name 1)) (
  s_cons (s_while (t_b (e_2 o_gt (e_call b_len (a_cons (e_var 1) (a_nil))) (e_c (.int 1)))) (s_cons (s_asg (e_lc (i_rng3 (e_c (.int 0)) (e_2 o_sub (e_call b_len (a_cons (e_var 1) (a_nil))) (e_c (.int 1))) (e_c (.int 2))) (g_name 4) (t_yes) (e_call (κ.fn 2) (a_cons (e_2 o_item (e_var 1) (e_var 4)) (a_cons (e_2 o_item (e_var 1) (e_2 o_add (e_var 4) (e_c (.int 1)))) (a_nil)))) [4]) (g_name 2)) (
  s_asg (e_2 o_add (e_var 2) (e_slice (e_var 1) (so_some (e_2 o_mul (e_c (.int 2)) (e_call b_len (a_cons (e_var 2) (a_nil))))) so_none)) (g_name 1)))) (
  s_ret (e_if (t_b (e_2 o_ne (e_var 1) (e_lst (a_nil)))) (e_2 o_item (e_var 1) (e_c (.int 0))) (e_lst (a_nil)))))
def d_in_order : Def := ⟨1, 5, b_in_order⟩
/-- are_kinds(value) : 0 value, 1 kind -/
def b_are_kinds (κ : Kap) : SS := s_ret (e_and (e_1 (o_isa sub .tTuple) (e_var 0)) (e_and (e_call b_all (a_cons (e_lc (i_tup (e_var 0)) (g_name 1) (t_yes) (e_call (κ.fn 0) (a_cons (e_var 1) (a_nil))) [1]) (a_nil))) (e_call (κ.fn 1) (a_cons (e_var 0) (a_nil)))))
def d_are_kinds : Def := ⟨1, 2, b_are_kinds⟩
/-- kinds_of(value) : 0 value -/
def b_kinds_of (κ : Kap) : SS := s_cons (s_if (t_e (e_1 (o_isa sub (.own 0)) (e_var 0))) (s_ret (e_1 (o_fld "own_kinds") (e_var 0))) (s_nil)) (
  s_ret (e_if (t_e (e_call (κ.fn 0) (a_cons (e_var 0) (a_nil)))) (e_tup (a_cons (e_var 0) (a_nil))) (e_c .non)))
def d_kinds_of : Def := ⟨1, 1, b_kinds_of⟩
/-- kinds_without(one, other) : 0 one, 1 other, 2 kind -/
def b_kinds_without (κ : Kap) : SS := s_ret (e_call b_tuple (a_cons (e_lc (i_tup (e_var 0)) (g_name 2) (t_b (e_2 o_notin (e_var 2) (e_var 1))) (e_var 2) [2]) (a_nil)))
def d_kinds_without : Def := ⟨2, 3, b_kinds_without⟩
/-- build_with(one, other) : 0 one, 1 other -/
def b_build_with (κ : Kap) : SS := s_ret (e_call (o_new κ 0 8) (a_cons (e_call b_tuple (a_cons (e_call (κ.fn 3) (a_cons (e_lst (a_star (e_var 0) (a_star (e_var 1) (a_nil)))) (a_nil))) (a_nil))) (a_nil)))
def d_build_with : Def := ⟨2, 2, b_build_with⟩
/-- Build_init(self, kinds) : 0 self, 1 kinds -/
def b_Build_init (κ : Kap) : SS := s_cons (s_if (t_not (t_e (e_call (κ.fn 4) (a_cons (e_var 1) (a_nil))))) (s_bad) (s_nil)) (
  s_attr "own_kinds" (e_var 0) (e_var 1))
def d_Build_init : Def := ⟨2, 2, b_Build_init⟩
/-- Build_kinds(self) : 0 self -/
def b_Build_kinds (κ : Kap) : SS := s_ret (e_1 (o_fld "own_kinds") (e_var 0))
def d_Build_kinds : Def := ⟨1, 1, b_Build_kinds⟩
/-- Build_eq(self, other) : 0 self, 1 other -/
def b_Build_eq (κ : Kap) : SS := s_ret (e_and (e_1 (o_isa sub (.own 0)) (e_var 1)) (e_2 o_eq (e_1 (o_fld "own_kinds") (e_var 0)) (e_1 (o_fld "own_kinds") (e_var 1))))
def d_Build_eq : Def := ⟨2, 2, b_Build_eq⟩
/-- Build_contains(self, kind) : 0 self, 1 kind -/
def b_Build_contains (κ : Kap) : SS := s_ret (e_and (e_1 (o_isa sub .tStr) (e_var 1)) (e_2 o_in (e_var 1) (e_1 (o_fld "own_kinds") (e_var 0))))
def d_Build_contains : Def := ⟨2, 2, b_Build_contains⟩
/-- Build_abs(self) : 0 self -/
def b_Build_abs (κ : Kap) : SS := s_ret (e_call b_len (a_cons (e_1 (o_fld "own_kinds") (e_var 0)) (a_nil)))
def d_Build_abs : Def := ⟨1, 1, b_Build_abs⟩
/-- Build_bool(self) : 0 self -/
def b_Build_bool (κ : Kap) : SS := s_ret (e_call b_bool (a_cons (e_1 (o_fld "own_kinds") (e_var 0)) (a_nil)))
def d_Build_bool : Def := ⟨1, 1, b_Build_bool⟩
/-- Build_or(self, other) : 0 self, 1 other, 2 some -/
def b_Build_or (κ : Kap) : SS := s_cons (s_asg (e_call (κ.fn 5) (a_cons (e_var 1) (a_nil))) (g_name 2)) (
  s_cons (s_if (t_b (e_2 o_is (e_var 2) (e_c .non))) (s_bad) (s_nil)) (
  s_ret (e_call (κ.fn 7) (a_cons (e_1 (o_fld "own_kinds") (e_var 0)) (a_cons (e_call (κ.fn 6) (a_cons (e_var 2) (a_cons (e_1 (o_fld "own_kinds") (e_var 0)) (a_nil)))) (a_nil))))))
def d_Build_or : Def := ⟨2, 3, b_Build_or⟩
/-- Build_ror(self, other) : 0 self, 1 other -/
def b_Build_ror (κ : Kap) : SS := s_ret (e_2 (o_own κ 0 14 15) (e_var 0) (e_var 1))
def d_Build_ror : Def := ⟨2, 2, b_Build_ror⟩
/-- Build_and(self, other) : 0 self, 1 other, 2 some, 3 kind -/
def b_Build_and (κ : Kap) : SS := s_cons (s_asg (e_call (κ.fn 5) (a_cons (e_var 1) (a_nil))) (g_name 2)) (
  s_cons (s_if (t_b (e_2 o_is (e_var 2) (e_c .non))) (s_bad) (s_nil)) (
  s_ret (e_call (o_new κ 0 8) (a_cons (e_call b_tuple (a_cons (e_lc (i_tup (e_1 (o_fld "own_kinds") (e_var 0))) (g_name 3) (t_b (e_2 o_in (e_var 3) (e_var 2))) (e_var 3) [3]) (a_nil))) (a_nil)))))
def d_Build_and : Def := ⟨2, 4, b_Build_and⟩
/-- Build_rand(self, other) : 0 self, 1 other -/
def b_Build_rand (κ : Kap) : SS := s_ret (e_2 (o_own κ 0 16 17) (e_var 0) (e_var 1))
def d_Build_rand : Def := ⟨2, 2, b_Build_rand⟩
/-- Build_sub(self, other) : 0 self, 1 other, 2 some -/
def b_Build_sub (κ : Kap) : SS := s_cons (s_asg (e_call (κ.fn 5) (a_cons (e_var 1) (a_nil))) (g_name 2)) (
  s_cons (s_if (t_b (e_2 o_is (e_var 2) (e_c .non))) (s_bad) (s_nil)) (
  s_ret (e_call (o_new κ 0 8) (a_cons (e_call (κ.fn 6) (a_cons (e_1 (o_fld "own_kinds") (e_var 0)) (a_cons (e_var 2) (a_nil)))) (a_nil)))))
def d_Build_sub : Def := ⟨2, 3, b_Build_sub⟩
/-- Build_rsub(self, other) : 0 self, 1 other, 2 some -/
def b_Build_rsub (κ : Kap) : SS := s_cons (s_asg (e_call (κ.fn 5) (a_cons (e_var 1) (a_nil))) (g_name 2)) (
  s_cons (s_if (t_b (e_2 o_is (e_var 2) (e_c .non))) (s_bad) (s_nil)) (
  s_ret (e_call (o_new κ 0 8) (a_cons (e_call (κ.fn 6) (a_cons (e_var 2) (a_cons (e_1 (o_fld "own_kinds") (e_var 0)) (a_nil)))) (a_nil)))))
def d_Build_rsub : Def := ⟨2, 3, b_Build_rsub⟩
/-- Build_xor(self, other) : 0 self, 1 other, 2 some -/
def b_Build_xor (κ : Kap) : SS := s_cons (s_asg (e_call (κ.fn 5) (a_cons (e_var 1) (a_nil))) (g_name 2)) (
  s_cons (s_if (t_b (e_2 o_is (e_var 2) (e_c .non))) (s_bad) (s_nil)) (
  s_ret (e_call (κ.fn 7) (a_cons (e_call (κ.fn 6) (a_cons (e_1 (o_fld "own_kinds") (e_var 0)) (a_cons (e_var 2) (a_nil)))) (a_cons (e_call (κ.fn 6) (a_cons (e_var 2) (a_cons (e_1 (o_fld "own_kinds") (e_var 0)) (a_nil)))) (a_nil))))))
def d_Build_xor : Def := ⟨2, 3, b_Build_xor⟩
/-- Build_rxor(self, other) : 0 self, 1 other -/
def b_Build_rxor (κ : Kap) : SS := s_ret (e_2 (o_own κ 0 20 21) (e_var 0) (e_var 1))
def d_Build_rxor : Def := ⟨2, 2, b_Build_rxor⟩
/-- Build_le(self, other) : 0 self, 1 other -/
def b_Build_le (κ : Kap) : SS := s_cons (s_if (t_not (t_e (e_1 (o_isa sub (.own 0)) (e_var 1)))) (s_bad) (s_nil)) (
  s_ret (e_2 o_eq (e_call (κ.fn 6) (a_cons (e_1 (o_fld "own_kinds") (e_var 0)) (a_cons (e_1 (o_fld "own_kinds") (e_var 1)) (a_nil)))) (e_tup (a_nil))))
def d_Build_le : Def := ⟨2, 2, b_Build_le⟩
/-- Build_lt(self, other) : 0 self, 1 other -/
def b_Build_lt (κ : Kap) : SS := s_cons (s_if (t_not (t_e (e_1 (o_isa sub (.own 0)) (e_var 1)))) (s_bad) (s_nil)) (
  s_ret (e_and (e_2 (o_cmp κ 0 22) (e_var 0) (e_var 1)) (e_2 o_ne (e_1 (o_fld "own_kinds") (e_var 0)) (e_1 (o_fld "own_kinds") (e_var 1)))))
def d_Build_lt : Def := ⟨2, 2, b_Build_lt⟩
/-- Build_ge(self, other) : 0 self, 1 other -/
def b_Build_ge (κ : Kap) : SS := s_cons (s_if (t_not (t_e (e_1 (o_isa sub (.own 0)) (e_var 1)))) (s_bad) (s_nil)) (
  s_ret (e_2 (o_cmp κ 0 22) (e_var 1) (e_var 0)))
def d_Build_ge : Def := ⟨2, 2, b_Build_ge⟩
/-- Build_gt(self, other) : 0 self, 1 other -/
def b_Build_gt (κ : Kap) : SS := s_cons (s_if (t_not (t_e (e_1 (o_isa sub (.own 0)) (e_var 1)))) (s_bad) (s_nil)) (
  s_ret (e_2 (o_cmp κ 0 23) (e_var 1) (e_var 0)))
def d_Build_gt : Def := ⟨2, 2, b_Build_gt⟩
/-- law_pot(_law_script, _law_k) : 0 _law_script, 1 _law_k, 2 _law_cell, 3 _law_own, 4 _law_small -/
def b_law_pot (κ : Kap) : SS := s_cons (s_asg (e_if (t_b (e_2 o_lt (e_var 1) (e_call b_len (a_cons (e_var 0) (a_nil))))) (e_2 o_item (e_var 0) (e_var 1)) (e_2 o_add (e_2 o_mul (e_c (.int 37)) (e_var 1)) (e_c (.int 11)))) (g_name 2)) (
  s_cons (s_asg (e_2 o_mul (e_2 o_mod (e_call b_int (a_cons (e_call b_abs (a_cons (e_var 2) (a_nil))) (a_nil))) (e_2 o_pow (e_2 o_pow (e_c (.int 10)) (e_c (.int 60))) (e_c (.int 5)))) (e_call b_int (a_cons (e_2 o_ge (e_call b_abs (a_cons (e_var 2) (a_nil))) (e_2 o_pow (e_c (.int 10)) (e_c (.int 18)))) (a_nil)))) (g_name 3)) (
  s_cons (s_asg (e_2 o_mod (e_call b_int (a_cons (e_var 2) (a_nil))) (e_c (.int 2305843009213693951))) (g_name 4)) (
  s_ret (e_lst (a_cons (e_var 3) (a_cons (e_2 o_mod (e_call b_int (a_cons (e_2 o_add (e_2 o_add (e_2 o_mul (e_var 4) (e_c (.int 70657))) (e_2 o_mul (e_2 o_mul (e_c (.int 7927)) (e_var 1)) (e_var 1))) (e_c (.int 97))) (a_nil))) (e_c (.int 2305843009213693921))) (a_cons (e_c (.int 0)) (a_nil))))))))
def d_law_pot : Def := ⟨2, 5, b_law_pot⟩
/-- law_take(_law_pot_here, _law_upto) : 0 _law_pot_here, 1 _law_upto, 2 _law_prime, 3 _law_mixed, 4 _law_digit -/
def b_law_take (κ : Kap) : SS := s_cons (s_if (t_b (e_2 o_gt (e_2 o_item (e_var 0) (e_c (.int 0))) (e_c (.int 0)))) (s_cons (s_asg (e_2 o_mod (e_call b_int (a_cons (e_2 o_item (e_var 0) (e_c (.int 0))) (a_nil))) (e_var 1)) (g_name 4)) (
  s_cons (s_put p_list (e_var 0) (e_c (.int 0)) (e_2 o_fdiv (e_2 o_item (e_var 0) (e_c (.int 0))) (e_var 1))) (
  s_ret (e_var 4)))) (s_nil)) (
  s_cons (s_put p_list (e_var 0) (e_c (.int 2)) (e_2 o_add (e_2 o_item (e_var 0) (e_c (.int 2))) (e_c (.int 1)))) (
  s_cons (s_asg (e_2 o_item (e_lst (a_cons (e_c (.int 2147483647)) (a_cons (e_c (.int 2147483629)) (a_cons (e_c (.int 2147483587)) (a_cons (e_c (.int 2147483579)) (a_cons (e_c (.int 2147483563)) (a_nil))))))) (e_2 o_mod (e_call b_int (a_cons (e_2 o_item (e_var 0) (e_c (.int 2))) (a_nil))) (e_c (.int 5)))) (g_name 2)) (
  s_cons (s_asg (e_2 o_mod (e_call b_int (a_cons (e_2 o_pow (e_call b_int (a_cons (e_2 o_add (e_2 o_add (e_2 o_item (e_var 0) (e_c (.int 1))) (e_2 o_mul (e_2 o_mul (e_c (.int 104729)) (e_2 o_item (e_var 0) (e_c (.int 2)))) (e_2 o_item (e_var 0) (e_c (.int 2))))) (e_c (.int 29))) (a_nil))) (e_c (.int 3))) (a_nil))) (e_var 2)) (g_name 3)) (
  s_cons (s_asg (e_2 o_mod (e_call b_int (a_cons (e_2 o_mul (e_var 3) (e_2 o_add (e_2 o_mod (e_call b_int (a_cons (e_var 3) (a_nil))) (e_c (.int 10007))) (e_2 o_mul (e_c (.int 97)) (e_2 o_item (e_var 0) (e_c (.int 2)))))) (a_nil))) (e_c (.int 2305843009213693907))) (g_name 3)) (
  s_ret (e_2 o_mod (e_call b_int (a_cons (e_2 o_fdiv (e_var 3) (e_c (.int 113))) (a_nil))) (e_var 1)))))))
def d_law_take : Def := ⟨2, 5, b_law_take⟩
/-- law_of(_law_pot_here, _law_some) : 0 _law_pot_here, 1 _law_some -/
def b_law_of (κ : Kap) : SS := s_ret (e_2 o_item (e_var 1) (e_call (κ.fn 27) (a_cons (e_var 0) (a_cons (e_call b_len (a_cons (e_var 1) (a_nil))) (a_nil)))))
def d_law_of : Def := ⟨2, 2, b_law_of⟩
/-- law_ordered(_law_rows) : 0 _law_rows, 1 _law_found, 2 _law_row, 3 _law_at -/
def b_law_ordered (κ : Kap) : SS := s_cons (s_asg (e_lst (a_nil)) (g_name 1)) (
  s_cons (s_for (i_list (e_var 0)) (g_name 2) (s_if (t_b (e_2 o_notin (e_var 2) (e_var 1))) (s_cons (s_asg (e_c (.int 0)) (g_name 3)) (
  s_cons (s_while (t_and (t_b (e_2 o_lt (e_var 3) (e_call b_len (a_cons (e_var 1) (a_nil))))) (t_b (e_2 o_lt (e_2 o_item (e_var 1) (e_var 3)) (e_var 2)))) (s_asg (e_2 o_add (e_var 3) (e_c (.int 1))) (g_name 3))) (
  s_expr (e_lm3 m_insert (e_var 1) (e_var 3) (e_var 2))))) (s_nil))) (
  s_ret (e_var 1)))
def d_law_ordered : Def := ⟨1, 4, b_law_ordered⟩
/-- law_word(_law_pot_here) : 0 _law_pot_here, 1 _law_word_here, 2 _law_lap -/
def b_law_word (κ : Kap) : SS := s_cons (s_asg (e_c (.str [])) (g_name 1)) (
  s_cons (s_for (i_rng1 (e_2 o_add (e_c (.int 1)) (e_call (κ.fn 27) (a_cons (e_var 0) (a_cons (e_c (.int 8)) (a_nil)))))) (g_name 2) (s_asg (e_2 o_add (e_var 1) (e_2 o_item (e_c (.str [97, 98, 99, 100, 101, 102, 103, 104, 105, 106, 107, 108, 109, 110, 111, 112, 113, 114, 115, 116, 117, 118, 119, 120, 121, 122])) (e_call (κ.fn 27) (a_cons (e_var 0) (a_cons (e_c (.int 26)) (a_nil)))))) (g_name 1))) (
  s_ret (e_2 o_add (e_var 1) (e_2 o_mul (e_c (.str [120])) (e_call b_int (a_cons (e_2 o_in (e_var 1) (e_tup (a_cons (e_c (.str [110, 101, 120, 116])) (a_cons (e_c (.str [109, 111, 114, 101])) (a_cons (e_c (.str [110, 111, 116])) (a_cons (e_c (.str [115, 97, 109, 101])) (a_cons (e_c (.str [108, 101, 115, 115])) (a_cons (e_c (.str [97, 110, 100])) (a_cons (e_c (.str [111, 114])) (a_nil)))))))))) (a_nil)))))))
def d_law_word : Def := ⟨1, 3, b_law_word⟩
/-- law_due(_law_word_here, _law_one, _law_other) : 0 _law_word_here, 1 _law_one, 2 _law_other, 3 _law_kind -/
def b_law_due (κ : Kap) : SS := s_cons (s_if (t_b (e_2 o_eq (e_var 0) (e_c (.str [124])))) (s_ret (e_call (κ.fn 29) (a_cons (e_2 o_add (e_var 1) (e_var 2)) (a_nil)))) (s_nil)) (
  s_cons (s_if (t_b (e_2 o_eq (e_var 0) (e_c (.str [38])))) (s_ret (e_lc (i_list (e_var 1)) (g_name 3) (t_b (e_2 o_in (e_var 3) (e_var 2))) (e_var 3) [3])) (s_nil)) (
  s_cons (s_if (t_b (e_2 o_eq (e_var 0) (e_c (.str [45])))) (s_ret (e_lc (i_list (e_var 1)) (g_name 3) (t_b (e_2 o_notin (e_var 3) (e_var 2))) (e_var 3) [3])) (s_nil)) (
  s_ret (e_call (κ.fn 29) (a_cons (e_2 o_add (e_lc (i_list (e_var 1)) (g_name 3) (t_b (e_2 o_notin (e_var 3) (e_var 2))) (e_var 3) [3]) (e_lc (i_list (e_var 2)) (g_name 3) (t_b (e_2 o_notin (e_var 3) (e_var 1))) (e_var 3) [3])) (a_nil))))))
def d_law_due : Def := ⟨3, 4, b_law_due⟩
/-- law_by(_law_word_here, _law_one, _law_other) : 0 _law_word_here, 1 _law_one, 2 _law_other -/
def b_law_by (κ : Kap) : SS := s_cons (s_if (t_b (e_2 o_eq (e_var 0) (e_c (.str [124])))) (s_ret (e_2 (o_own κ 0 14 15) (e_var 1) (e_var 2))) (s_nil)) (
  s_cons (s_if (t_b (e_2 o_eq (e_var 0) (e_c (.str [38])))) (s_ret (e_2 (o_own κ 0 16 17) (e_var 1) (e_var 2))) (s_nil)) (
  s_ret (e_if (t_b (e_2 o_eq (e_var 0) (e_c (.str [45])))) (e_2 (o_own κ 0 18 19) (e_var 1) (e_var 2)) (e_2 (o_own κ 0 20 21) (e_var 1) (e_var 2)))))
def d_law_by : Def := ⟨3, 3, b_law_by⟩
/-- law_placed(_law_word_here, _law_one, _law_other) : 0 _law_word_here, 1 _law_one, 2 _law_other -/
def b_law_placed (κ : Kap) : SS := s_cons (s_if (t_b (e_2 o_eq (e_var 0) (e_c (.str [124])))) (s_aug 1 (o_ownI κ 0 14 15) (e_var 2)) (s_if (t_b (e_2 o_eq (e_var 0) (e_c (.str [38])))) (s_aug 1 (o_ownI κ 0 16 17) (e_var 2)) (s_if (t_b (e_2 o_eq (e_var 0) (e_c (.str [45])))) (s_aug 1 (o_ownI κ 0 18 19) (e_var 2)) (s_aug 1 (o_ownI κ 0 20 21) (e_var 2))))) (
  s_ret (e_var 1))
def d_law_placed : Def := ⟨3, 3, b_law_placed⟩
/-- law_compared(_law_one, _law_other, _law_kinds, _law_others) : 0 _law_one, 1 _law_other, 2 _law_kinds, 3 _law_others, 4 _law_within, 5 _law_beyond, 6 _law_told, 7 _law_alike, 8 _law_kind -/
def b_law_compared (κ : Kap) : SS := s_cons (s_par 4 5 (e_call b_all (a_cons (e_lc (i_list (e_var 2)) (g_name 8) (t_yes) (e_2 o_in (e_var 8) (e_var 3)) [8]) (a_nil))) (e_call b_all (a_cons (e_lc (i_list (e_var 3)) (g_name 8) (t_yes) (e_2 o_in (e_var 8) (e_var 2)) [8]) (a_nil)))) (
  s_cons (s_asg (e_lst (a_cons (e_2 (o_cmp κ 0 22) (e_var 0) (e_var 1)) (a_cons (e_2 (o_cmp κ 0 23) (e_var 0) (e_var 1)) (a_cons (e_2 (o_cmp κ 0 24) (e_var 0) (e_var 1)) (a_cons (e_2 (o_cmp κ 0 25) (e_var 0) (e_var 1)) (a_cons (e_2 (o_cmp κ 0 10) (e_var 0) (e_var 1)) (a_cons (e_2 (o_ncmp κ 0 10) (e_var 0) (e_var 1)) (a_nil)))))))) (g_name 6)) (
  s_cons (s_asg (e_2 o_eq (e_var 2) (e_var 3)) (g_name 7)) (
  s_ret (e_2 o_eq (e_call (b_repr κ) (a_cons (e_var 6) (a_nil))) (e_call (b_repr κ) (a_cons (e_lst (a_cons (e_var 4) (a_cons (e_and (e_var 4) (e_not (e_var 7))) (a_cons (e_var 5) (a_cons (e_and (e_var 5) (e_not (e_var 7))) (a_cons (e_var 7) (a_cons (e_not (e_var 7)) (a_nil)))))))) (a_nil)))))))
def d_law_compared : Def := ⟨4, 9, b_law_compared⟩
/-- law_rows_of(_law_pot_here) : 0 _law_pot_here, 1 _law_names, 2 _law_made, 3 _law_dues, 4 _law_lap, 5 _law_due_here, 6 _law_word_here, 7 _law_way, 8 _law_at, 9 _law_beside, 10 _law_name, 11 _law_told, 12 _law_one -/
def b_law_rows_of (κ : Kap) : SS := s_cons (s_asg (e_call (κ.fn 29) (a_cons (e_lc (i_rng1 (e_c (.int 6))) (g_name 4) (t_yes) (e_call (κ.fn 30) (a_cons (e_var 0) (a_nil))) [4]) (a_nil))) (g_name 1)) (
  s_cons (s_par 2 3 (e_lst (a_nil)) (e_lst (a_nil))) (
  s_cons (s_for (i_rng1 (e_c (.int 2))) (g_name 4) (s_cons (s_asg (e_lc (i_list (e_var 1)) (g_name 10) (t_b (e_2 o_eq (e_call (κ.fn 27) (a_cons (e_var 0) (a_cons (e_c (.int 2)) (a_nil)))) (e_c (.int 1)))) (e_var 10) [10]) (g_name 5)) (
  s_cons (s_expr (e_lm m_append (e_var 2) (e_call (o_new κ 0 8) (a_cons (e_call b_tuple (a_cons (e_var 5) (a_nil))) (a_nil))))) (
  s_expr (e_lm m_append (e_var 3) (e_var 5)))))) (
  s_cons (s_for (i_rng1 (e_c (.int 10))) (g_name 4) (s_cons (s_par 6 7 (e_call (κ.fn 28) (a_cons (e_var 0) (a_cons (e_lst (a_cons (e_c (.str [124])) (a_cons (e_c (.str [38])) (a_cons (e_c (.str [45])) (a_cons (e_c (.str [94])) (a_nil)))))) (a_nil)))) (e_call (κ.fn 27) (a_cons (e_var 0) (a_cons (e_c (.int 6)) (a_nil))))) (
  s_cons (s_par3 8 9 10 (e_call (κ.fn 27) (a_cons (e_var 0) (a_cons (e_call b_len (a_cons (e_var 2) (a_nil))) (a_nil)))) (e_call (κ.fn 27) (a_cons (e_var 0) (a_cons (e_call b_len (a_cons (e_var 2) (a_nil))) (a_nil)))) (e_call (κ.fn 28) (a_cons (e_var 0) (a_cons (e_var 1) (a_nil))))) (
  s_cons (s_if (t_b (e_2 o_eq (e_var 7) (e_c (.int 0)))) (s_par 11 5 (e_call (κ.fn 32) (a_cons (e_var 6) (a_cons (e_var 10) (a_cons (e_2 o_item (e_var 2) (e_var 8)) (a_nil))))) (e_call (κ.fn 31) (a_cons (e_var 6) (a_cons (e_lst (a_cons (e_var 10) (a_nil))) (a_cons (e_2 o_item (e_var 3) (e_var 8)) (a_nil)))))) (s_if (t_b (e_2 o_eq (e_var 7) (e_c (.int 1)))) (s_par 11 5 (e_call (κ.fn 32) (a_cons (e_var 6) (a_cons (e_2 o_item (e_var 2) (e_var 8)) (a_cons (e_var 10) (a_nil))))) (e_call (κ.fn 31) (a_cons (e_var 6) (a_cons (e_2 o_item (e_var 3) (e_var 8)) (a_cons (e_lst (a_cons (e_var 10) (a_nil))) (a_nil)))))) (s_if (t_b (e_2 o_eq (e_var 7) (e_c (.int 2)))) (s_par 11 5 (e_call (κ.fn 33) (a_cons (e_var 6) (a_cons (e_2 o_item (e_var 2) (e_var 8)) (a_cons (e_var 10) (a_nil))))) (e_call (κ.fn 31) (a_cons (e_var 6) (a_cons (e_2 o_item (e_var 3) (e_var 8)) (a_cons (e_lst (a_cons (e_var 10) (a_nil))) (a_nil)))))) (s_if (t_b (e_2 o_eq (e_var 7) (e_c (.int 3)))) (s_par 11 5 (e_call (κ.fn 33) (a_cons (e_var 6) (a_cons (e_2 o_item (e_var 2) (e_var 8)) (a_cons (e_2 o_item (e_var 2) (e_var 9)) (a_nil))))) (e_call (κ.fn 31) (a_cons (e_var 6) (a_cons (e_2 o_item (e_var 3) (e_var 8)) (a_cons (e_2 o_item (e_var 3) (e_var 9)) (a_nil)))))) (s_par 11 5 (e_call (κ.fn 32) (a_cons (e_var 6) (a_cons (e_2 o_item (e_var 2) (e_var 8)) (a_cons (e_2 o_item (e_var 2) (e_var 9)) (a_nil))))) (e_call (κ.fn 31) (a_cons (e_var 6) (a_cons (e_2 o_item (e_var 3) (e_var 8)) (a_cons (e_2 o_item (e_var 3) (e_var 9)) (a_nil)))))))))) (
  s_cons (s_if (t_not (t_e (e_1 (o_isa sub (.own 0)) (e_var 11)))) (s_ret (e_c (.bl false))) (s_nil)) (
  s_cons (s_expr (e_lm m_append (e_var 2) (e_var 11))) (
  s_cons (s_expr (e_lm m_append (e_var 3) (e_var 5))) (
  s_cons (s_if (t_b (e_2 o_ne (e_call (b_repr κ) (a_cons (e_lc (i_list (e_var 2)) (g_name 12) (t_yes) (e_prop κ 0 9 (e_var 12)) [12]) (a_nil))) (e_call (b_repr κ) (a_cons (e_lc (i_list (e_var 3)) (g_name 12) (t_yes) (e_call b_tuple (a_cons (e_var 12) (a_nil))) [12]) (a_nil))))) (s_ret (e_c (.bl false))) (s_nil)) (
  s_cons (s_par 8 9 (e_call (κ.fn 27) (a_cons (e_var 0) (a_cons (e_call b_len (a_cons (e_var 2) (a_nil))) (a_nil)))) (e_call (κ.fn 27) (a_cons (e_var 0) (a_cons (e_call b_len (a_cons (e_var 2) (a_nil))) (a_nil))))) (
  s_cons (s_if (t_not (t_e (e_call (κ.fn 34) (a_cons (e_2 o_item (e_var 2) (e_var 8)) (a_cons (e_2 o_item (e_var 2) (e_var 9)) (a_cons (e_2 o_item (e_var 3) (e_var 8)) (a_cons (e_2 o_item (e_var 3) (e_var 9)) (a_nil)))))))) (s_ret (e_c (.bl false))) (s_nil)) (
  s_if (t_b (e_2 o_ne (e_call (b_repr κ) (a_cons (e_lst (a_cons (e_2 (o_ownIn κ 0 11) (e_var 10) (e_var 11)) (a_cons (e_call (o_low κ 0 12) (a_cons (e_var 11) (a_nil))) (a_cons (e_call (b_own (o_low κ 0 13)) (a_cons (e_var 11) (a_nil))) (a_nil))))) (a_nil))) (e_call (b_repr κ) (a_cons (e_lst (a_cons (e_2 o_in (e_var 10) (e_var 5)) (a_cons (e_call b_len (a_cons (e_var 5) (a_nil))) (a_cons (e_2 o_gt (e_call b_len (a_cons (e_var 5) (a_nil))) (e_c (.int 0))) (a_nil))))) (a_nil))))) (s_ret (e_c (.bl false))) (s_nil)))))))))))) (
  s_ret (e_c (.bl true))))))
def d_law_rows_of : Def := ⟨1, 13, b_law_rows_of⟩
/-- law(_law_script) : 0 _law_script, 1 _law_k -/
def b_law (κ : Kap) : SS := s_cons (s_for (i_rng1 (e_call b_max (a_cons (e_c (.int 1)) (a_cons (e_call b_min (a_cons (e_call b_len (a_cons (e_var 0) (a_nil))) (a_cons (e_c (.int 12)) (a_nil)))) (a_nil))))) (g_name 1) (s_if (t_not (t_e (e_call (κ.fn 35) (a_cons (e_call (κ.fn 26) (a_cons (e_var 0) (a_cons (e_var 1) (a_nil)))) (a_nil))))) (s_ret (e_c (.bl false))) (s_nil))) (
  s_ret (e_c (.bl true)))
def d_law : Def := ⟨1, 2, b_law⟩
def defs : Nat → Option Def
  | 0 => some d_is_name
  | 1 => some d_is_ascending
  | 2 => some d_merged
  | 3 => some d_in_order
  | 4 => some d_are_kinds
  | 5 => some d_kinds_of
  | 6 => some d_kinds_without
  | 7 => some d_build_with
  | 8 => some d_Build_init
  | 9 => some d_Build_kinds
  | 10 => some d_Build_eq
  | 11 => some d_Build_contains
  | 12 => some d_Build_abs
  | 13 => some d_Build_bool
  | 14 => some d_Build_or
  | 15 => some d_Build_ror
  | 16 => some d_Build_and
  | 17 => some d_Build_rand
  | 18 => some d_Build_sub
  | 19 => some d_Build_rsub
  | 20 => some d_Build_xor
  | 21 => some d_Build_rxor
  | 22 => some d_Build_le
  | 23 => some d_Build_lt
  | 24 => some d_Build_ge
  | 25 => some d_Build_gt
  | 26 => some d_law_pot
  | 27 => some d_law_take
  | 28 => some d_law_of
  | 29 => some d_law_ordered
  | 30 => some d_law_word
  | 31 => some d_law_due
  | 32 => some d_law_by
  | 33 => some d_law_placed
  | 34 => some d_law_compared
  | 35 => some d_law_rows_of
  | 36 => some d_law
  | _ => none
def prog (sh : PD → Txt) : Prog := ⟨defs, sh⟩
end K01
end

section
set_option linter.all false
set_option autoImplicit false
set_option maxRecDepth 100000
namespace K01
open IR
/-- a pot from which at most k draws were made -/
def Pot (k : Nat) (l : List D) : Prop := ∃ a b c : Int, l = [.int a, .int b, .int c] ∧ 0 ≤ a ∧ 0 ≤ b ∧ b < 2305843009213693952 ∧ 0 ≤ c ∧ c ≤ k
theorem Pot.pure {k : Nat} {l : List D} (h : Pot k l) : (LO.lst l).pure = true := by
  obtain ⟨a, b, c, rfl, _⟩ := h
  rfl
theorem Pot.mono {j k : Nat} {l : List D} (h : Pot j l) (hk : j ≤ k) : Pot k l := by
  obtain ⟨a, b, c, e, h1, h2, h3, h4, h5⟩ := h
  exact ⟨a, b, c, e, h1, h2, h3, h4, by omega⟩
variable {sh : PD → Txt}
theorem take_big (n : Nat) (h : Heap) (p : Nat) (a b c u : Int) (hp : h[p]? = some (.lst [.int a, .int b, .int c])) (ha : 0 < a) (hu : 0 < u) (hu2 : u < 1073741824) :
    callF (prog sh) (n + 4) 27 [.ref p, .int u] h = .ok (.int (a % u)) (h.set p (.lst [.int (a / u), .int b, .int c])) := by
  rw [callF_succ _ _ _ _ _ d_law_take rfl]
  have hpl := get_lt hp
  simp [runDef, d_law_take, b_law_take, s_cons, s_if, s_asg, s_put, s_ret, s_nil, t_b, e_2, e_var, e_c, e_call, a_cons, a_nil, o_item, items, hp, atI, ixN, liftO_some, o_gt, okB, asB, ha, gcB_self, b_int, o_mod, hu, gc_int, g_name, o_fdiv, hu2, p_list, Flow.then, List.set]
  rw [gc_set0 rfl rfl]
/-- the primes -/
def primes : List D := [.int 2147483647, .int 2147483629, .int 2147483587, .int 2147483579, .int 2147483563]
theorem prime_at (i : Int) (h0 : 0 ≤ i) (h5 : i < 5) : ∃ q : Int, atI primes i = some (.int q) ∧ 0 < q ∧ q < 2147483648 := by
  have : i = 0 ∨ i = 1 ∨ i = 2 ∨ i = 3 ∨ i = 4 := by omega
  rcases this with rfl | rfl | rfl | rfl | rfl <;> exact ⟨_, rfl, by decide, by decide⟩
theorem log_small {i : Int} (h0 : 0 ≤ i) (h1 : i < 1180591620717411303424) : i.natAbs.log2 < 4096 := by
  by_cases hz : i.natAbs = 0
  · rw [hz]; decide
  · have h2 : i.natAbs.log2 < 70 := (Nat.log2_lt hz).mpr (by
      have : (2 : Nat) ^ 70 = 1180591620717411303424 := by decide
      omega)
    omega
theorem take_small (n : Nat) (h : Heap) (p : Nat) (a b c u : Int) (hp : h[p]? = some (.lst [.int a, .int b, .int c])) (ha : ¬ 0 < a) (hb : 0 ≤ b) (hb2 : b < 2305843009213693952) (hc : 0 ≤ c) (hc2 : c < 1000000) (hu : 0 < u) (hu2 : u < 1073741824) :
    ∃ d, callF (prog sh) (n + 4) 27 [.ref p, .int u] h = .ok (.int d) (h.set p (.lst [.int a, .int b, .int (c + 1)])) ∧ 0 ≤ d ∧ d < u := by
  rw [callF_succ _ _ _ _ _ d_law_take rfl]
  have hpl := get_lt hp
  obtain ⟨q, hq, q0, q1⟩ := prime_at ((c + 1) % 5) (Int.emod_nonneg _ (by decide)) (Int.emod_lt_of_pos _ (by decide))
  have hset : (h.set p (.lst [.int a, .int b, .int (c + 1)]))[p]? = some (.lst [.int a, .int b, .int (c + 1)]) := get_set hp
  have hset2 : ∀ g : Heap, (h.set p (.lst [.int a, .int b, .int (c + 1)]) ++ g)[p]? = some (.lst [.int a, .int b, .int (c + 1)]) := fun g => get_old hset
  have hl : (h.set p (.lst [.int a, .int b, .int (c + 1)])).length = h.length := by simp
  have hnew : (h.set p (.lst [.int a, .int b, .int (c + 1)]) ++ [.lst primes])[h.length]? = some (.lst primes) := by rw [← hl]; exact get_new
  have m1 : (c + 1).natAbs < 18446744073709551616 := by omega
  have x0 : 0 ≤ 104729 * (c + 1) * (c + 1) := Int.mul_nonneg (by omega) (by omega)
  have x1 : 104729 * (c + 1) * (c + 1) ≤ 104729 * 1000000 * 1000000 := Int.mul_le_mul (by omega) (by omega) (by omega) (by omega)
  have lg : (b + 104729 * (c + 1) * (c + 1) + 29).natAbs.log2 < 4096 := log_small (by omega) (by omega)
  have w0 : 0 ≤ (b + 104729 * (c + 1) * (c + 1) + 29) ^ 3 % q := Int.emod_nonneg _ (by omega)
  have w1 : (b + 104729 * (c + 1) * (c + 1) + 29) ^ 3 % q < q := Int.emod_lt_of_pos _ q0
  have m2 : ((b + 104729 * (c + 1) * (c + 1) + 29) ^ 3 % q).natAbs < 18446744073709551616 := by omega
  refine ⟨(b + 104729 * (c + 1) * (c + 1) + 29) ^ 3 % q * ((b + 104729 * (c + 1) * (c + 1) + 29) ^ 3 % q % 10007 + 97 * (c + 1)) % 2305843009213693907 / 113 % u, ?_, Int.emod_nonneg _ (by omega), Int.emod_lt_of_pos _ hu⟩
  have hq' : atI [D.int 2147483647, .int 2147483629, .int 2147483587, .int 2147483579, .int 2147483563] ((c + 1) % 5) = some (.int q) := hq
  have hnew' : (h.set p (.lst [.int a, .int b, .int (c + 1)]) ++ [.lst [D.int 2147483647, .int 2147483629, .int 2147483587, .int 2147483579, .int 2147483563]])[h.length]? = some (.lst [D.int 2147483647, .int 2147483629, .int 2147483587, .int 2147483579, .int 2147483563]) := hnew
  have at0 : ∀ (x y z : D), atI [x, y, z] 0 = some x := fun _ _ _ => rfl
  have at1 : ∀ (x y z : D), atI [x, y, z] 1 = some y := fun _ _ _ => rfl
  have at2 : ∀ (x y z : D), atI [x, y, z] 2 = some z := fun _ _ _ => rfl
  have nd : ¬ (a > 0) := ha
  have g1 : gc (h.set p (.lst [.int a, .int b, .int (c + 1)])) (.ok (.int q) (h.set p (.lst [.int a, .int b, .int (c + 1)]) ++ [.lst [D.int 2147483647, .int 2147483629, .int 2147483587, .int 2147483579, .int 2147483563]])) = .ok (.int q) (h.set p (.lst [.int a, .int b, .int (c + 1)])) := gc_app rfl
  have g2 : ∀ d : Int, gc h (.ok (.int d) (h.set p (.lst [.int a, .int b, .int (c + 1)]))) = .ok (.int d) (h.set p (.lst [.int a, .int b, .int (c + 1)])) := fun d => gc_set0 rfl rfl
  have gB : ∀ (b : Bool), gcB h (.ok b h) = .ok b h := fun _ => gcB_self
  have gH : ∀ d : Int, gc (h.set p (.lst [.int a, .int b, .int (c + 1)])) (.ok (.int d) (h.set p (.lst [.int a, .int b, .int (c + 1)]))) = .ok (.int d) (h.set p (.lst [.int a, .int b, .int (c + 1)])) := fun d => gc_int
  have pp : (((h.set p (.lst [.int a, .int b, .int (c + 1)])) ++ [.lst [D.int 2147483647, .int 2147483629, .int 2147483587, .int 2147483579, .int 2147483563]]) : Heap)[p]? = some (.lst [.int a, .int b, .int (c + 1)]) := hset2 _
  generalize hH : h.set p (.lst [.int a, .int b, .int (c + 1)]) = H at *
  have hput : p_list (.ref p) (.int 2) (.int (c + 1)) h = .ok () H := by simp [p_list, hp, List.set, ← hH]
  simp [runDef, d_law_take, b_law_take, s_cons, s_if, s_asg, s_put, s_ret, s_nil, t_b, e_2, e_var, e_c, e_call, a_cons, a_nil, e_lst, newO, o_item, items, hp, at0, at1, at2, liftO_some, o_gt, okB, asB, ha, gB, b_int, o_mod, gc_int, g_name, o_fdiv, hput, Flow.then, o_add, o_mul, o_pow, hset, pp, hl, hnew', hq', g1, g2, m1, m2, lg, q0, hu, BIG, LIM]
theorem take_spec {n p k : Nat} {h : Heap} {l : List D} {u : Int} (hn : 4 ≤ n) (hp : h[p]? = some (.lst l)) (hl : Pot k l) (hk : k < 1000000 := by omega) (hu : 0 < u := by omega) (hu2 : u < 1073741824 := by omega) :
    ∃ d l', callF (prog sh) n 27 [.ref p, .int u] h = .ok (.int d) (h.set p (.lst l')) ∧ Pot (k + 1) l' ∧ 0 ≤ d ∧ d < u := by
  obtain ⟨m, rfl⟩ : ∃ m, n = m + 4 := ⟨n - 4, by omega⟩
  obtain ⟨a, b, c, rfl, h1, h2, h3, h4, h5⟩ := hl
  by_cases ha : 0 < a
  · exact ⟨_, _, take_big m h p a b c u hp ha hu hu2, ⟨_, _, _, rfl, Int.ediv_nonneg (by omega) (by omega), h2, h3, h4, by omega⟩, Int.emod_nonneg _ (by omega), Int.emod_lt_of_pos _ hu⟩
  · obtain ⟨d, e, d0, d1⟩ := take_small (sh := sh) m h p a b c u hp ha h2 h3 h4 (by omega) hu hu2
    exact ⟨d, _, e, ⟨_, _, _, rfl, h1, h2, h3, by omega, by omega⟩, d0, d1⟩
theorem at_nat {α : Type} {xs : List α} {i : Int} (h0 : 0 ≤ i) (h1 : i < xs.length) : ∃ x, atI xs i = some x ∧ xs[i.toNat]? = some x := by
  have : i.toNat < xs.length := by omega
  refine ⟨xs[i.toNat], ?_, List.getElem?_eq_getElem this⟩
  simp [atI, ixN, h0, h1, List.getElem?_eq_getElem this]
theorem of_spec {n p s k : Nat} {h : Heap} {l ds : List D} (hn : 5 ≤ n) (hp : h[p]? = some (.lst l)) (hs : h[s]? = some (.lst ds)) (hps : s ≠ p) (hd : D.pures ds = true) (hl : Pot k l) (hk : k < 1000000 := by omega) (hne : 0 < ds.length) (hlen : ds.length < 1000) :
    ∃ d l', callF (prog sh) n 28 [.ref p, .ref s] h = .ok d (h.set p (.lst l')) ∧ Pot (k + 1) l' ∧ d ∈ ds := by
  obtain ⟨m, rfl⟩ : ∃ m, n = m + 1 + 4 := ⟨n - 5, by omega⟩
  rw [callF_succ _ _ _ _ _ d_law_of rfl]
  obtain ⟨d, l', e, hl', d0, d1⟩ := take_spec (sh := sh) (n := m + 1 + 3) (u := ds.length) (by omega) hp hl hk
  obtain ⟨x, hx, hx2⟩ := at_nat d0 d1
  have hm : x ∈ ds := List.mem_of_getElem? hx2
  have hs2 : (h.set p (.lst l'))[s]? = some (.lst ds) := by rw [List.getElem?_set_ne (Ne.symm hps)]; exact hs
  have pu : ∀ (ds : List D) (x : D), D.pures ds = true → x ∈ ds → x.pure = true := by
    intro ds
    induction ds with
    | nil => intro x _ h; cases h
    | cons a r ih =>
      intro x h hx
      simp only [D.pures, Bool.and_eq_true] at h
      rcases List.mem_cons.mp hx with rfl | hx
      · exact h.1
      · exact ih x h.2 hx
  have gx : gc h (.ok x (h.set p (.lst l'))) = .ok x (h.set p (.lst l')) := gc_set0 (pu ds x hd hm) hl'.pure
  refine ⟨x, l', ?_, hl', hm⟩
  simp [runDef, d_law_of, b_law_of, s_ret, e_2, e_var, e_call, a_cons, a_nil, b_len, lenD, hs, liftO_some, e, o_item, items, hs2, hx, gx]
theorem pow1 {h : Heap} : o_pow (.int 10) (.int 60) h = .ok (.int (10 ^ 60)) h := by
  simp only [o_pow]
  rw [if_pos (by decide +kernel)]
  rfl
theorem pow2 {h : Heap} : o_pow (.int (10 ^ 60)) (.int 5) h = .ok (.int ((10 ^ 60) ^ 5)) h := by
  simp only [o_pow]
  rw [if_pos (by decide +kernel)]
  rfl
theorem pow3 {h : Heap} : o_pow (.int 10) (.int 18) h = .ok (.int (10 ^ 18)) h := by
  simp only [o_pow]
  rw [if_pos (by decide +kernel)]
  rfl
theorem modE {h : Heap} (i : Int) : o_mod (.int i) (.int ((10 ^ 60) ^ 5)) h = .ok (.int (i % (10 ^ 60) ^ 5)) h := by
  simp only [o_mod]
  rw [if_pos (by decide +kernel)]
theorem pot_rest {h : Heap} {is : List D} {i c : Int} (h0 : 0 ≤ i) (h1 : i < 12) : ∃ l, (s_cons (s_asg (e_2 o_mul (e_2 o_mod (e_call b_int (a_cons (e_call b_abs (a_cons (e_var 2) (a_nil))) (a_nil))) (e_2 o_pow (e_2 o_pow (e_c (.int 10)) (e_c (.int 60))) (e_c (.int 5)))) (e_call b_int (a_cons (e_2 o_ge (e_call b_abs (a_cons (e_var 2) (a_nil))) (e_2 o_pow (e_c (.int 10)) (e_c (.int 18)))) (a_nil)))) (g_name 3)) (
      s_cons (s_asg (e_2 o_mod (e_call b_int (a_cons (e_var 2) (a_nil))) (e_c (.int 2305843009213693951))) (g_name 4)) (
      s_ret (e_lst (a_cons (e_var 3) (a_cons (e_2 o_mod (e_call b_int (a_cons (e_2 o_add (e_2 o_add (e_2 o_mul (e_var 4) (e_c (.int 70657))) (e_2 o_mul (e_2 o_mul (e_c (.int 7927)) (e_var 1)) (e_var 1))) (e_c (.int 97))) (a_nil))) (e_c (.int 2305843009213693921))) (a_cons (e_c (.int 0)) (a_nil)))))))) [some (.frz is), some (.int i), some (.int c), none, none] h = .rt (.ref h.length) (h ++ [.lst l]) ∧ Pot 0 l := by
  have q0 : ∀ x : Int, 0 ≤ x % 2305843009213693921 := fun x => Int.emod_nonneg _ (by decide)
  have q1 : ∀ x : Int, x % 2305843009213693921 < 2305843009213693921 := fun x => Int.emod_lt_of_pos _ (by decide)
  have a0 : ∀ x : Int, 0 ≤ x % (10 ^ 60) ^ 5 := fun x => Int.emod_nonneg _ (by decide +kernel)
  have mi : (i.natAbs < 18446744073709551616) := by omega
  have posE : (0 : Int) < (10 ^ 60) ^ 5 := by decide +kernel
  by_cases hb : (10 : Int) ^ 18 ≤ (if c < 0 then -c else c)
  · refine ⟨[.int ((if c < 0 then -c else c) % (10 ^ 60) ^ 5 * 1), .int ((c % 2305843009213693951 * 70657 + 7927 * i * i + 97) % 2305843009213693921), .int 0], ?_, _, _, _, rfl, ?_, q0 _, Int.lt_trans (q1 _) (by decide), Int.le_refl _, by decide⟩
    · simp [s_cons, s_asg, s_ret, e_2, e_call, a_cons, a_nil, e_var, e_c, b_abs, b_int, pow1, pow2, pow3, modE, o_ge, okB, hb, o_mul, BIG, gc_int, g_name, Flow.then, o_mod, o_add, e_lst, newO, LIM, mi, posE, -Int.reducePow]
    · have := a0 (if c < 0 then -c else c); omega
  · refine ⟨[.int ((if c < 0 then -c else c) % (10 ^ 60) ^ 5 * 0), .int ((c % 2305843009213693951 * 70657 + 7927 * i * i + 97) % 2305843009213693921), .int 0], ?_, _, _, _, rfl, by simp, q0 _, Int.lt_trans (q1 _) (by decide), Int.le_refl _, by decide⟩
    · simp [s_cons, s_asg, s_ret, e_2, e_call, a_cons, a_nil, e_var, e_c, b_abs, b_int, pow1, pow2, pow3, modE, o_ge, okB, hb, o_mul, BIG, gc_int, g_name, Flow.then, o_mod, o_add, e_lst, newO, LIM, mi, posE, -Int.reducePow]
theorem pot_spec {n : Nat} {h : Heap} {is : List Int} {i : Int} (hn : 4 ≤ n) (h0 : 0 ≤ i) (h1 : i < 12) : ∃ l, callF (prog sh) n 26 [.frz (is.map .int), .int i] h = .ok (.ref h.length) (h ++ [.lst l]) ∧ Pot 0 l := by
  obtain ⟨m, rfl⟩ : ∃ m, n = m + 4 := ⟨n - 4, by omega⟩
  rw [callF_succ _ _ _ _ _ d_law_pot rfl]
  have first : ∃ c : Int, (e_if (t_b (e_2 o_lt (e_var 1) (e_call b_len (a_cons (e_var 0) (a_nil))))) (e_2 o_item (e_var 0) (e_var 1)) (e_2 o_add (e_2 o_mul (e_c (.int 37)) (e_var 1)) (e_c (.int 11)))) [some (.frz (is.map .int)), some (.int i), none, none, none] h = .ok (.int c) h := by
    by_cases hl : i < is.length
    · obtain ⟨x, hx, hx2⟩ := at_nat (xs := is.map D.int) h0 (by simpa using hl)
      obtain ⟨c, _, rfl⟩ := List.mem_map.mp (List.mem_of_getElem? hx2)
      refine ⟨c, ?_⟩
      simp [e_if, t_b, e_2, e_var, e_call, a_cons, a_nil, b_len, lenD, liftO_some, o_lt, okB, asB, hl, o_item, items, hx]
    · refine ⟨37 * i + 11, ?_⟩
      simp [e_if, t_b, e_2, e_var, e_call, a_cons, a_nil, b_len, lenD, liftO_some, o_lt, okB, asB, hl, o_mul, o_add, e_c, BIG]
  obtain ⟨c, ec⟩ := first
  obtain ⟨l, el, hl⟩ := pot_rest (h := h) (is := is.map .int) (c := c) h0 h1
  have gN : gc h (.ok (.ref h.length) (h ++ [.lst l])) = .ok (.ref h.length) (h ++ [.lst l]) := gc_new get_new (Nat.le_refl _) hl.pure
  refine ⟨l, ?_, hl⟩
  have hb : d_law_pot.body (kap (prog sh) m) [some (.frz (is.map .int)), some (.int i), none, none, none] h = .rt (.ref h.length) (h ++ [.lst l]) := by
    show b_law_pot (kap (prog sh) m) _ _ = _
    unfold b_law_pot
    rw [s_cons, s_asg, ec, gc_int]
    exact el
  rw [run_rt rfl (v := .ref h.length) (h' := h ++ [.lst l]) hb]
  exact gN
end K01
end

section
set_option linter.all false
set_option autoImplicit false
set_option maxRecDepth 100000
namespace K01
open IR
variable {sh : PD → Txt}
/-- _law_ordered -/
theorem ordered_spec {n r : Nat} {h : Heap} {rows : List Txt} (hn : 4 ≤ n) (hr : h[r]? = some (.lst (txts rows))) (hl : rows.length < 100000) :
    ∃ out, callF (prog sh) n 29 [.ref r] h = .ok (.ref h.length) (h ++ [.lst (txts out)]) ∧ Asc out ∧ (∀ x, x ∈ out ↔ x ∈ rows) ∧ out.length ≤ rows.length := by
  obtain ⟨m, rfl⟩ : ∃ m, n = m + 4 := ⟨n - 4, by omega⟩
  rw [callF_succ _ _ _ _ _ d_law_ordered rfl]
  generalize hκ : kap (prog sh) m = κ
  have hrl := get_lt hr
  -- the loop
  have loop := for_inv (it := i_list (e_var 0)) (g := g_name 2) (src := ⟨txts rows, [(r, .lst (txts rows))]⟩) (σ := [some (.ref r), some (.ref h.length), none, none]) (h := h ++ [.lst []]) (h1 := h ++ [.lst []])
    (body := s_if (t_b (e_2 o_notin (e_var 2) (e_var 1))) (s_cons (s_asg (e_c (.int 0)) (g_name 3)) (
      s_cons (s_while (t_and (t_b (e_2 o_lt (e_var 3) (e_call b_len (a_cons (e_var 1) (a_nil))))) (t_b (e_2 o_lt (e_2 o_item (e_var 1) (e_var 3)) (e_var 2)))) (s_asg (e_2 o_add (e_var 3) (e_c (.int 1))) (g_name 3))) (
      s_expr (e_lm3 m_insert (e_var 1) (e_var 3) (e_var 2))))) (s_nil))
    (fun i σ h' => ∃ f x y, Asc f ∧ (∀ z, z ∈ f ↔ z ∈ rows.take i) ∧ f.length ≤ i ∧ h' = h ++ [.lst (txts f)] ∧ σ = [some (.ref r), some (.ref h.length), x, y])
    (by simp [i_list, e_var, get_old hr]) (fun i σ h' ⟨f, x, y, _, _, _, e, _⟩ => by subst e; simp [Src.ok, get_old hr])
    ⟨[], none, none, List.Pairwise.nil, by simp, by simp, rfl, rfl⟩ (fun i x σ h' hx ⟨f, s2, s3, fa, fm, fl, e1, e2⟩ => by
      subst e1 e2
      obtain ⟨w, hw, rfl⟩ : ∃ w, rows[i]? = some w ∧ x = .str w := by
        simp only [txts, List.getElem?_map, Option.map_eq_some_iff] at hx
        obtain ⟨w, h1, h2⟩ := hx
        exact ⟨w, h1, h2.symm⟩
      have hi : i < rows.length := (List.getElem?_eq_some_iff.mp hw).1
      have tk : rows.take (i + 1) = rows.take i ++ [w] := by rw [List.take_add_one, hw]; rfl
      have at_ : (h ++ [LO.lst (txts f)])[h.length]? = some (.lst (txts f)) := get_new
      refine ⟨_, rfl, ?_⟩
      by_cases hm : w ∈ f
      · refine ⟨[some (.ref r), some (.ref h.length), some (.str w), s3], h ++ [.lst (txts f)], ?_, f, some (.str w), s3, fa, ?_, by omega, rfl, rfl⟩
        · simp [s_if, t_b, e_2, e_var, o_notin, isIn_ref at_, hm, liftO_some, okB, asB, gcB_self, s_nil]
        · intro z
          rw [tk, List.mem_append, fm z]
          constructor
          · exact .inl
          · rintro (q | q)
            · exact q
            · simp at q; subst q; exact (fm z).mp hm
      · -- the place
        obtain ⟨σ', h', ⟨k, kl, e1, e2, lo, hi'⟩, wr⟩ := while_inv (t := t_and (t_b (e_2 o_lt (e_var 3) (e_call b_len (a_cons (e_var 1) (a_nil))))) (t_b (e_2 o_lt (e_2 o_item (e_var 1) (e_var 3)) (e_var 2)))) (body := s_asg (e_2 o_add (e_var 3) (e_c (.int 1))) (g_name 3))
          (σ := [some (.ref r), some (.ref h.length), some (.str w), some (.int 0)]) (h := h ++ [.lst (txts f)])
          (fun σ h' => ∃ k : Nat, k ≤ f.length ∧ h' = h ++ [.lst (txts f)] ∧ σ = [some (.ref r), some (.ref h.length), some (.str w), some (.int k)] ∧ ∀ y ∈ f.take k, y < w)
          (fun σ _ => f.length - (match σ[3]? with | some (some (D.int k)) => k.toNat | _ => 0))
          (fun σ h' => ∃ k : Nat, k ≤ f.length ∧ h' = h ++ [.lst (txts f)] ∧ σ = [some (.ref r), some (.ref h.length), some (.str w), some (.int k)] ∧ (∀ y ∈ f.take k, y < w) ∧ ∀ y ∈ f.drop k, w < y)
          ⟨0, Nat.zero_le _, rfl, rfl, by simp⟩ (by simp only [WF]; omega) (fun σ h' ⟨k, kl, e1, e2, lo⟩ => by
            subst e1 e2
            by_cases hk : k < f.length
            · have itm : atI (txts f) (k : Int) = some (.str f[k]) := by
                simp [atI, ixN, txts, hk]
              by_cases hlt : f[k] < w
              · refine ⟨true, h ++ [.lst (txts f)], ?_, by simp, fun _ => ⟨[some (.ref r), some (.ref h.length), some (.str w), some (.int (k + 1 : Nat))], h ++ [.lst (txts f)], ?_, ⟨k + 1, hk, rfl, rfl, ?_⟩, ?_⟩⟩
                · simp [t_and, t_b, e_2, e_var, e_call, a_cons, a_nil, b_len, lenD, liftO_some, o_lt, okB, asB, hk, o_item, items, itm, ltT, hlt]
                  exact gcB_self
                · simp [s_asg, e_2, e_var, e_c, o_add, gc_int, g_name]
                · intro y hy
                  rw [List.take_add_one, List.getElem?_eq_getElem hk] at hy
                  rcases List.mem_append.mp hy with q | q
                  · exact lo y q
                  · simp at q; subst q; exact hlt
                · show f.length - (k + 1) < f.length - k
                  omega
              · refine ⟨false, h ++ [.lst (txts f)], ?_, fun _ => ⟨k, kl, rfl, rfl, lo, ?_⟩, by simp⟩
                · simp [t_and, t_b, e_2, e_var, e_call, a_cons, a_nil, b_len, lenD, liftO_some, o_lt, okB, asB, hk, o_item, items, itm, ltT, hlt]
                  exact gcB_self
                · have hne : f[k] ≠ w := fun q => hm (q ▸ List.getElem_mem hk)
                  have hgt := txt_total hlt hne
                  have dr := List.drop_eq_getElem_cons hk
                  intro y hy
                  rw [dr] at hy
                  have fd := fa.sublist (List.drop_sublist k f)
                  rw [dr, List.pairwise_cons] at fd
                  rcases List.mem_cons.mp hy with q | q
                  · subst q; exact hgt
                  · exact txt_trans hgt (fd.1 y q)
            · have ke : k = f.length := by omega
              refine ⟨false, h ++ [.lst (txts f)], ?_, fun _ => ⟨k, kl, rfl, rfl, lo, ?_⟩, by simp⟩
              · simp [t_and, t_b, e_2, e_var, e_call, a_cons, a_nil, b_len, lenD, liftO_some, o_lt, okB, asB, hk]
                exact gcB_self
              · rw [ke]; simp)
        subst e1 e2
        have ei : (h ++ [LO.lst (txts f)]).set h.length (.lst (insAt (txts f) k (.str w))) = h ++ [.lst (txts (insAt f k w))] := by rw [set_new, ins_strs]
        refine ⟨[some (.ref r), some (.ref h.length), some (.str w), some (.int k)], h ++ [.lst (txts (insAt f k w))], ?_, insAt f k w, _, _, asc_ins fa lo hi', ?_, ?_, rfl, rfl⟩
        · have hlm : f.length < 16777216 := by omega
          have gI : gc (h ++ [.lst (txts f)]) (.ok .non (h ++ [.lst (txts (insAt f k w))])) = .ok .non (h ++ [.lst (txts (insAt f k w))]) := by
            rw [← ei]; exact gc_set0 rfl (by rw [ins_strs]; exact pures_strs _)
          simp [s_if, t_b, e_2, e_var, o_notin, isIn_ref at_, hm, liftO_some, okB, asB, gcB_self, s_cons, s_asg, e_c, gc_int, g_name, Flow.then, wr, s_expr, e_lm3, isLst, m_insert, hlm, kl, LIM, ei, gI]
        · intro z
          rw [mem_ins, tk, List.mem_append, fm z]
          constructor
          · rintro (q | q)
            · exact .inr (by simp [q])
            · exact .inl q
          · rintro (q | q)
            · exact .inr q
            · simp at q; exact .inl q
        · simp [insAt]; omega)
  obtain ⟨σ', h', ⟨f, x, y, fa, fm, fl, e1, e2⟩, lr⟩ := loop
  subst e1 e2
  refine ⟨f, ?_, fa, fun z => by rw [fm z]; simp, by simpa using fl⟩
  have gN : gc h (.ok (.ref h.length) (h ++ [.lst (txts f)])) = .ok (.ref h.length) (h ++ [.lst (txts f)]) := gc_new get_new (Nat.le_refl _) (pures_strs f)
  have g0 : gc h (.ok (.ref h.length) (h ++ [.lst []])) = .ok (.ref h.length) (h ++ [.lst []]) := gc_new get_new (Nat.le_refl _) rfl
  rw [run_rt rfl (v := .ref h.length) (h' := h ++ [.lst (txts f)]) ?_]
  · exact gN
  · show b_law_ordered κ _ _ = _
    unfold b_law_ordered
    have s1 : s_asg (e_lst a_nil) (g_name 1) ([D.ref r].map some ++ List.replicate (d_law_ordered.n - d_law_ordered.np) none) h = .nx [some (.ref r), some (.ref h.length), none, none] (h ++ [.lst []]) := by
      simp [s_asg, e_lst, a_nil, newO, LIM, g0, g_name, d_law_ordered]
    rw [s_cons, s1]
    simp only [Flow.then, s_cons, lr]
    simp [s_ret, e_var]
end K01
end

section
set_option linter.all false
set_option autoImplicit false
set_option maxRecDepth 100000
namespace K01
open IR
variable {sh : PD → Txt}
def abc : Txt := [97, 98, 99, 100, 101, 102, 103, 104, 105, 106, 107, 108, 109, 110, 111, 112, 113, 114, 115, 116, 117, 118, 119, 120, 121, 122]
def taken : List Txt := [[110, 101, 120, 116], [109, 111, 114, 101], [110, 111, 116], [115, 97, 109, 101], [108, 101, 115, 115], [97, 110, 100], [111, 114]]
def Letters (w : Txt) : Prop := ∀ c ∈ w, c ∈ abc
/-- a name of a kind -/
structure Word (w : Txt) : Prop where
  len : 1 ≤ w.length ∧ w.length ≤ 8
  let_ : Letters w
  ok : w ∉ taken
theorem abc_at {i : Int} (h0 : 0 ≤ i) (h1 : i < 26) : ∃ c, atI abc i = some c ∧ c ∈ abc := by
  obtain ⟨x, e1, e2⟩ := at_nat (xs := abc) h0 h1
  exact ⟨x, e1, List.mem_of_getElem? e2⟩
theorem word_end {w : Txt} (h1 : 1 ≤ w.length ∧ w.length ≤ 8) (hl : Letters w) : Word (w ++ if w ∈ taken then [120] else []) := by
  by_cases h : w ∈ taken
  · rw [if_pos h]
    have : w = [110, 101, 120, 116] ∨ w = [109, 111, 114, 101] ∨ w = [110, 111, 116] ∨ w = [115, 97, 109, 101] ∨ w = [108, 101, 115, 115] ∨ w = [97, 110, 100] ∨ w = [111, 114] := by simpa [taken] using h
    rcases this with rfl | rfl | rfl | rfl | rfl | rfl | rfl <;> exact ⟨by decide, by unfold Letters; decide, by decide⟩
  · rw [if_neg h, List.append_nil]
    exact ⟨h1, hl, h⟩
theorem set_set {h : Heap} {p : Nat} {o o' : LO} : (h.set p o).set p o' = h.set p o' := by simp
theorem word_spec {n p k : Nat} {h : Heap} {l : List D} (hn : 5 ≤ n) (hp : h[p]? = some (.lst l)) (hl : Pot k l) (hk : k < 900000) :
    ∃ w l', callF (prog sh) n 30 [.ref p] h = .ok (.str w) (h.set p (.lst l')) ∧ Pot (k + 9) l' ∧ Word w := by
  obtain ⟨m, rfl⟩ : ∃ m, n = m + 1 + 4 := ⟨n - 5, by omega⟩
  rw [callF_succ _ _ _ _ _ d_law_word rfl]
  obtain ⟨d, l1, e1, hl1, d0, d1⟩ := take_spec (sh := sh) (n := m + 1 + 3) (u := 8) (by omega) hp hl
  have p1 : (h.set p (.lst l1))[p]? = some (.lst l1) := get_set hp
  have len1 : (rng 0 (1 + d).toNat 1).length = (1 + d).toNat := by simp [rng]
  obtain ⟨σ', h', ⟨w, l2, x, hw, hlw, hl2, e2, e3⟩, lr⟩ := for_inv (it := i_rng1 (e_2 o_add (e_c (.int 1)) (e_call ((kap (prog sh) (m + 1)).fn 27) (a_cons (e_var 0) (a_cons (e_c (.int 8)) (a_nil)))))) (g := g_name 2)
    (body := s_asg (e_2 o_add (e_var 1) (e_2 o_item (e_c (.str abc)) (e_call ((kap (prog sh) (m + 1)).fn 27) (a_cons (e_var 0) (a_cons (e_c (.int 26)) (a_nil)))))) (g_name 1))
    (src := ⟨rng 0 (1 + d).toNat 1, []⟩) (σ := [some (.ref p), some (.str []), none]) (h := h) (h1 := h.set p (.lst l1))
    (fun i σ h' => ∃ w l2 x, w.length = i ∧ Letters w ∧ Pot (k + 1 + i) l2 ∧ h' = h.set p (.lst l2) ∧ σ = [some (.ref p), some (.str w), x])
    (by
      have : -B62 ≤ 1 + d ∧ 1 + d < B62 := by simp only [B62]; omega
      simp [i_rng1, e_2, e_c, e_call, a_cons, a_nil, e_var, e1, o_add, this]) (fun _ _ _ _ => rfl) ⟨[], l1, none, rfl, (by intro c hc; cases hc), hl1, rfl, rfl⟩
    (fun i y σ h' hy ⟨w, l2, x, hw, hlw, hl2, e2, e3⟩ => by
      subst e2 e3
      have hi : i < (1 + d).toNat := by
        have := (List.getElem?_eq_some_iff.mp hy).1
        rw [len1] at this; exact this
      have p2 : (h.set p (.lst l2))[p]? = some (.lst l2) := get_set hp
      obtain ⟨d2, l3, e4, hl3, d2a, d2b⟩ := take_spec (sh := sh) (n := m + 1 + 3) (u := 26) (by omega) p2 hl2
      rw [set_set] at e4
      obtain ⟨c, c1, c2⟩ := abc_at d2a d2b
      have g3 : gc (h.set p (.lst l2)) (.ok (.str (w ++ [c])) (h.set p (.lst l3))) = .ok (.str (w ++ [c])) (h.set p (.lst l3)) := by
        have := gc_set0 (h := h.set p (.lst l2)) (v := .str (w ++ [c])) (p := p) (o := .lst l3) rfl hl3.pure
        rw [set_set] at this; exact this
      refine ⟨_, rfl, [some (.ref p), some (.str (w ++ [c])), some y], h.set p (.lst l3), ?_, w ++ [c], l3, some y, by simp [hw], ?_, hl3, rfl, rfl⟩
      · have lc : abc.length ≤ 16777216 := by decide
        have lw : w.length + 1 ≤ 16777216 := by omega
        simp [s_asg, e_2, e_var, e_c, e_call, a_cons, a_nil, e4, o_item, lc, LIM, c1, liftO_some, o_add, lw, g3, g_name]
      · intro z hz
        rcases List.mem_append.mp hz with q | q
        · exact hlw z q
        · simp at q; subst q; exact c2)
  subst e2 e3
  rw [len1] at hw hl2
  have hw2 : 1 ≤ w.length ∧ w.length ≤ 8 := by omega
  refine ⟨w ++ if w ∈ taken then [120] else [], l2, ?_, hl2.mono (by omega), word_end hw2 hlw⟩
  have g0 : ∀ v : Txt, gc h (.ok (.str v) (h.set p (.lst l2))) = .ok (.str v) (h.set p (.lst l2)) := fun v => gc_set0 rfl hl2.pure
  rw [run_rt rfl (v := .str (w ++ if w ∈ taken then [120] else [])) (h' := h.set p (.lst l2)) ?_]
  · exact g0 _
  · show b_law_word (kap (prog sh) (m + 1)) _ _ = _
    unfold b_law_word
    have s1 : s_asg (e_c (.str [])) (g_name 1) ([D.ref p].map some ++ List.replicate (d_law_word.n - d_law_word.np) none) h = .nx [some (.ref p), some (.str []), none] h := by
      simp [s_asg, e_c, gc_str, g_name, d_law_word]
    rw [s_cons, s1]
    simp only [Flow.then, s_cons]
    have lr' := lr
    unfold abc at lr'
    rw [lr']
    have inT : isIn (h.set p (.lst l2)) (.str w) (.tup [.str [110, 101, 120, 116], .str [109, 111, 114, 101], .str [110, 111, 116], .str [115, 97, 109, 101], .str [108, 101, 115, 115], .str [97, 110, 100], .str [111, 114]]) = some (decide (w ∈ taken)) := isIn_tup (l := taken)
    by_cases hT : w ∈ taken
    · have lw : w.length + 1 ≤ 16777216 := by omega
      simp [s_ret, e_2, e_var, e_c, e_call, a_cons, a_nil, e_tup, LIM, o_in, inT, hT, liftO_some, okB, b_int, o_mul, o_add, lw]
    · have lw : w.length ≤ 16777216 := by omega
      simp [s_ret, e_2, e_var, e_c, e_call, a_cons, a_nil, e_tup, LIM, o_in, inT, hT, liftO_some, okB, b_int, o_mul, o_add, lw]
end K01
end

section
set_option linter.all false
set_option autoImplicit false
set_option maxRecDepth 100000
set_option maxHeartbeats 1000000
namespace K01
open IR
variable {sh : PD → Txt}
/-- kinds in order -/
structure Kinds (l : List Txt) : Prop where
  word : ∀ w ∈ l, Word w
  asc : Asc l
  few : l.length < 1000
def inst (l : List Txt) : LO := .ins 0 [("own_kinds", .tup (txts l))]
theorem inst_pure (l : List Txt) : (inst l).pure = true := by simp [inst, LO.pure, D.pure, pures_strs]
theorem is_name_spec {n : Nat} {h : Heap} {w : Txt} (hn : 4 ≤ n) (hw : Word w) : callF (prog sh) n 0 [.str w] h = .ok (.bl true) h := by
  obtain ⟨m, rfl⟩ : ∃ m, n = m + 4 := ⟨n - 4, by omega⟩
  rw [callF_succ _ _ _ _ _ d_is_name rfl]
  have lc := lc_all (it := i_str (e_var 0)) (g := g_name 1) (e := e_2 o_in (e_var 1) (e_c (.str abc))) (own := [1]) (σ := [some (.str w), none]) (h := h) (src := ⟨w.map fun c => .str [c], []⟩) (fun _ => .bl true)
    (by simp [i_str, e_var]) (fun _ => rfl) (by have := hw.len.2; simp only [List.length_map, LIM]; omega) (fun x hx acc => by
      obtain ⟨c, hc, rfl⟩ := List.mem_map.mp hx
      have ha : c ∈ abc := hw.let_ c hc
      refine ⟨_, rfl, ?_⟩
      simp [wipe, e_2, e_var, e_c, o_in, isIn, ha, liftO_some, okB, gc_bl])
  have l1 : (1 : Int) ≤ w.length := by have := hw.len.1; omega
  have l2 : (w.length : Int) ≤ 8 := by have := hw.len.2; omega
  have l3 : w.length ≤ 16777216 := by have := hw.len.2; omega
  have inT : isIn h (.str w) (.tup [.str [110, 101, 120, 116], .str [109, 111, 114, 101], .str [110, 111, 116], .str [115, 97, 109, 101], .str [108, 101, 115, 115], .str [97, 110, 100], .str [111, 114]]) = some (decide (w ∈ taken)) := isIn_tup (l := taken)
  have ga : ∀ g : Heap, gc h (.ok (.bl true) (h ++ g)) = .ok (.bl true) h := fun g => gc_app rfl
  unfold abc at lc
  simp [runDef, d_is_name, b_is_name, s_cons, s_if, t_or, t_not, t_e, e_1, e_var, o_isa, isTy, Ty.str, liftO_some, okB, truth, t_b, e_chain, e_c, e_call, a_cons, a_nil, b_len, lenD, l3, LIM, o_le, asB, l1, l2, e_2, o_in, inT, hw.ok, gcB_self, Flow.then, s_nil, s_ret, lc, all_true, ga, -List.map_map]
theorem zip_mem : ∀ {l : List Txt} {x : D}, Asc l → x ∈ zipD (txts l) (txts (l.drop 1)) → ∃ a b, x = .tup [.str a, .str b] ∧ a < b
  | [], x, _, h => by simp [zipD] at h
  | [a], x, _, h => by simp [zipD] at h
  | a :: b :: r, x, ha, h => by
    rw [Asc, List.pairwise_cons] at ha
    simp only [txts, List.drop_succ_cons, List.drop_zero, List.map_cons, zipD, List.mem_cons] at h
    rcases h with h | h
    · exact ⟨a, b, h, ha.1 b List.mem_cons_self⟩
    · exact zip_mem (l := b :: r) ha.2 (by simpa [txts] using h)
theorem zip_small : ∀ (a b : List D), (zipD a b).length ≤ a.length
  | [], _ => by simp [zipD]
  | _ :: _, [] => by simp [zipD]
  | x :: a, y :: b => by simp [zipD]; exact zip_small a b
theorem ascending_spec {n : Nat} {h : Heap} {l : List Txt} (hn : 4 ≤ n) (ha : Asc l) (hl : l.length < 1000) : callF (prog sh) n 1 [.tup (txts l)] h = .ok (.bl true) h := by
  obtain ⟨m, rfl⟩ : ∃ m, n = m + 4 := ⟨n - 4, by omega⟩
  rw [callF_succ _ _ _ _ _ d_is_ascending rfl]
  have lc := lc_all (it := i_zipT (e_var 0) (e_slice (e_var 0) (so_some (e_c (.int 1))) so_none)) (g := g_tup 2 (g_cons (g_name 1) (g_cons (g_name 2) (g_nil)))) (e := e_2 o_lt (e_var 1) (e_var 2)) (own := [1, 2]) (σ := [some (.tup (txts l)), none, none]) (h := h)
    (src := ⟨zipD (txts l) (txts (l.drop 1)), []⟩) (fun _ => .bl true)
    (by
      have c1 : cut (txts l) (some 1) none = txts (l.drop 1) := by
        cases l with
        | nil => rfl
        | cons a r => simp [cut, sIx, txts, List.take_of_length_le]
      simp [i_zipT, e_var, e_slice, so_some, so_none, e_c, asI, liftO_some, o_slice, c1]) (fun _ => rfl) (by have := zip_small (txts l) (txts (l.drop 1)); simp only [txts, List.length_map] at this ⊢; simp only [LIM]; omega) (fun x hx acc => by
      obtain ⟨a, b, rfl, hab⟩ := zip_mem ha hx
      refine ⟨[some (.tup (txts l)), some (.str a), some (.str b)], by simp [g_tup, g_cons, g_name, g_nil, wipe, Flow.then], ?_⟩
      simp [e_2, e_var, o_lt, ltT, hab, okB, gc_bl])
  have ga : ∀ g : Heap, gc h (.ok (.bl true) (h ++ g)) = .ok (.bl true) h := fun g => gc_app rfl
  simp [runDef, d_is_ascending, b_is_ascending, s_ret, e_call, a_cons, a_nil, lc, all_true, ga, -List.map_map]
theorem are_kinds_spec {n : Nat} {h : Heap} {l : List Txt} (hn : 5 ≤ n) (hk : Kinds l) : callF (prog sh) n 4 [.tup (txts l)] h = .ok (.bl true) h := by
  obtain ⟨m, rfl⟩ : ∃ m, n = m + 1 + 4 := ⟨n - 5, by omega⟩
  rw [callF_succ _ _ _ _ _ d_are_kinds rfl]
  have lc := lc_all (it := i_tup (e_var 0)) (g := g_name 1) (e := e_call ((kap (prog sh) (m + 1)).fn 0) (a_cons (e_var 1) (a_nil))) (own := [1]) (σ := [some (.tup (txts l)), none]) (h := h) (src := ⟨txts l, []⟩) (fun _ => .bl true)
    (by simp [i_tup, e_var]) (fun _ => rfl) (by have := hk.few; simp only [txts, List.length_map, LIM]; omega) (fun x hx acc => by
      obtain ⟨w, hw, rfl⟩ := List.mem_map.mp hx
      refine ⟨_, rfl, ?_⟩
      have := is_name_spec (sh := sh) (n := m + 1 + 3) (h := h ++ [.lst acc]) (by omega) (hk.word w hw)
      simp [wipe, e_call, a_cons, a_nil, e_var, this, gc_bl])
  have ga : ∀ g : Heap, gc h (.ok (.bl true) (h ++ g)) = .ok (.bl true) h := fun g => gc_app rfl
  have as := fun h => ascending_spec (sh := sh) (n := m + 1 + 3) (h := h) (by omega) hk.asc hk.few
  simp [runDef, d_are_kinds, b_are_kinds, s_ret, e_and, e_1, e_var, o_isa, isTy, Ty.tup, liftO_some, okB, asB, e_call, a_cons, a_nil, lc, all_true, as, ga, -List.map_map]
theorem new_spec {n : Nat} {h : Heap} {l : List Txt} (hn : 4 ≤ n) (hk : Kinds l) : o_new (kap (prog sh) n) 0 8 [.tup (txts l)] h = .ok (.ref h.length) (h ++ [inst l]) := by
  have ak := fun h => are_kinds_spec (sh := sh) (n := n + 1) (h := h) (by omega) hk
  obtain ⟨m, rfl⟩ : ∃ m, n = m + 2 := ⟨n - 2, by omega⟩
  have gs : gc (h ++ [.ins 0 []]) (.ok .non (h ++ [inst l])) = .ok .non (h ++ [inst l]) := by
    have := gc_set0 (h := h ++ [.ins 0 []]) (v := .non) (p := h.length) (o := inst l) rfl (inst_pure l)
    rw [set_new] at this; exact this
  have ini : callF (prog sh) (m + 4) 8 [.ref h.length, .tup (txts l)] (h ++ [.ins 0 []]) = .ok .non (h ++ [inst l]) := by
    rw [callF_succ _ _ _ _ _ d_Build_init rfl]
    have gs' := gs
    simp only [inst] at gs'
    simp [runDef, d_Build_init, b_Build_init, s_cons, s_if, t_not, t_e, e_call, a_cons, a_nil, e_var, ak, truth, liftO_some, gcB_self, s_nil, Flow.then, s_attr, s_attr.putF, inst, gs']
  have ini2 : callF (prog sh) (m + 2 + 2) 8 [.ref h.length, .tup (txts l)] (h ++ [.ins 0 []]) = .ok .non (h ++ [inst l]) := ini
  simp only [o_new, ini2, Res.bind_ok, if_true]
end K01
end

section
set_option linter.all false
set_option autoImplicit false
set_option maxRecDepth 100000
set_option maxHeartbeats 1000000
namespace K01
open IR
variable {sh : PD → Txt}
theorem kinds_of_ref {n k : Nat} {h : Heap} {l : List Txt} (hn : 4 ≤ n) (e : h[k]? = some (inst l)) : callF (prog sh) n 5 [.ref k] h = .ok (.tup (txts l)) h := by
  obtain ⟨m, rfl⟩ : ∃ m, n = m + 4 := ⟨n - 4, by omega⟩
  rw [callF_succ _ _ _ _ _ d_kinds_of rfl]
  have e' : h[k]? = some (.ins 0 [("own_kinds", .tup (txts l))]) := e
  have g : gc h (.ok (.tup (txts l)) h) = .ok (.tup (txts l)) h := gc_self (pures_strs l)
  simp [runDef, d_kinds_of, b_kinds_of, s_cons, s_if, t_e, e_1, e_var, o_isa, isTy, e', Ty.is, sub, liftO_some, okB, truth, gcB_self, s_ret, o_fld, fldD, Flow.then, List.lookup, g]
theorem kinds_of_str {n : Nat} {h : Heap} {w : Txt} (hn : 5 ≤ n) (hw : Word w) : callF (prog sh) n 5 [.str w] h = .ok (.tup (txts [w])) h := by
  obtain ⟨m, rfl⟩ : ∃ m, n = m + 1 + 4 := ⟨n - 5, by omega⟩
  rw [callF_succ _ _ _ _ _ d_kinds_of rfl]
  have nm := fun h => is_name_spec (sh := sh) (n := m + 1 + 3) (h := h) (by omega) hw
  have g : gc h (.ok (.tup [.str w]) h) = .ok (.tup [.str w]) h := gc_self rfl
  simp [runDef, d_kinds_of, b_kinds_of, s_cons, s_if, t_e, e_1, e_var, o_isa, isTy, Ty.is, Ty.str, liftO_some, okB, truth, gcB_self, s_ret, s_nil, Flow.then, e_if, e_call, a_cons, a_nil, nm, e_tup, LIM, g]
theorem without_spec {n : Nat} {h : Heap} {l m : List Txt} (hn : 4 ≤ n) (hl : l.length < 1000) : callF (prog sh) n 6 [.tup (txts l), .tup (txts m)] h = .ok (.tup (txts (l.filter fun x => decide (x ∉ m)))) h := by
  obtain ⟨j, rfl⟩ : ∃ j, n = j + 4 := ⟨n - 4, by omega⟩
  rw [callF_succ _ _ _ _ _ d_kinds_without rfl]
  have lc := lc_spec (it := i_tup (e_var 0)) (g := g_name 2) (t := t_b (e_2 o_notin (e_var 2) (e_var 1))) (e := e_var 2) (own := [2]) (σ := [some (.tup (txts l)), some (.tup (txts m)), none]) (h := h) (src := ⟨txts l, []⟩)
    (fun x => match x with | .str w => decide (w ∉ m) | _ => false) (fun x => x)
    (by simp [i_tup, e_var]) (fun _ => rfl) (by simp only [txts, List.length_map, LIM]; omega) (fun x hx acc => by
      obtain ⟨w, hw, rfl⟩ := List.mem_map.mp hx
      refine ⟨_, rfl, ?_, fun _ => ?_⟩
      · simp [wipe, t_b, e_2, e_var, o_notin, isIn_tup, liftO_some, okB, asB]
      · simp [wipe, e_var, gc_str])
  have fs : (List.filter (fun x => match x with | .str w => decide (w ∉ m) | _ => false) (txts l)).map (fun x => x) = txts (l.filter fun x => decide (x ∉ m)) := by
    rw [List.map_id', txts, List.filter_map]
    rfl
  have fs' : List.map (fun x => x) (List.filter (fun x => match x with | .str w => decide (w ∉ m) | _ => false) (Src.mk (txts l) []).items) = txts (l.filter fun x => decide (x ∉ m)) := fs
  rw [fs'] at lc
  have g : ∀ g, gc h (.ok (.tup (txts (l.filter fun x => decide (x ∉ m)))) (h ++ g)) = .ok (.tup (txts (l.filter fun x => decide (x ∉ m)))) h := fun g => gc_app (pures_strs _)
  rw [run_rt rfl (v := .tup (txts (l.filter fun x => decide (x ∉ m)))) (h' := h ++ [.lst (txts (l.filter fun x => decide (x ∉ m)))]) ?_]
  · exact g _
  · show b_kinds_without (kap (prog sh) j) _ _ = _
    unfold b_kinds_without
    simp only [s_ret, e_call, a_cons, a_nil]
    have lc' : e_lc (i_tup (e_var 0)) (g_name 2) (t_b (e_2 o_notin (e_var 2) (e_var 1))) (e_var 2) [2] (List.map some [D.tup (txts l), .tup (txts m)] ++ List.replicate (d_kinds_without.n - d_kinds_without.np) none) h = _ := lc
    rw [lc']
    simp [b_tuple, items, liftO_some]
end K01
end

section
set_option linter.all false
set_option autoImplicit false
set_option maxRecDepth 100000
set_option maxHeartbeats 1000000
namespace K01
open IR
variable {sh : PD → Txt}
/-- what merged has put together so far -/
structure Mg (l1 l2 F : List Txt) (i j : Nat) : Prop where
  ib : i ≤ l1.length
  jb : j ≤ l2.length
  len : F.length = i + j
  mem : ∀ z, z ∈ F ↔ z ∈ l1.take i ∨ z ∈ l2.take j
  asc : Asc F
  lo1 : ∀ y ∈ F, ∀ z ∈ l1.drop i, y < z
  lo2 : ∀ y ∈ F, ∀ z ∈ l2.drop j, y < z
theorem drop_at {l : List Txt} {i : Nat} (h : i < l.length) : l.drop i = l[i] :: l.drop (i + 1) := List.drop_eq_getElem_cons h
theorem asc_drop {l : List Txt} {i : Nat} (ha : Asc l) (h : i < l.length) : ∀ z ∈ l.drop (i + 1), l[i] < z := by
  have q := ha.sublist (List.drop_sublist i l)
  rw [drop_at h, List.pairwise_cons] at q
  exact q.1
theorem mg_swap {l1 l2 F : List Txt} {i j : Nat} (M : Mg l1 l2 F i j) : Mg l2 l1 F j i := ⟨M.jb, M.ib, by rw [M.len]; omega, fun z => by rw [M.mem z]; exact or_comm, M.asc, M.lo2, M.lo1⟩
theorem mg_step {l1 l2 F : List Txt} {i j : Nat} (M : Mg l1 l2 F i j) (a1 : Asc l1) (a2 : Asc l2) (hi : i < l1.length) (hj : j < l2.length) (hlt : l1[i] < l2[j]) : Mg l1 l2 (F ++ [l1[i]]) (i + 1) j := by
  have di := drop_at hi
  have dj := drop_at hj
  refine ⟨hi, M.jb, by simp [M.len]; omega, fun z => ?_, ?_, ?_, ?_⟩
  · rw [List.mem_append, M.mem z, List.take_add_one, List.getElem?_eq_getElem hi, List.mem_append]
    simp only [List.mem_singleton, Option.toList]
    constructor
    · rintro ((q | q) | q)
      · exact .inl (.inl q)
      · exact .inr q
      · exact .inl (.inr q)
    · rintro ((q | q) | q)
      · exact .inl (.inl q)
      · exact .inr q
      · exact .inl (.inr q)
  · rw [Asc, List.pairwise_append]
    exact ⟨M.asc, List.pairwise_singleton _ _, fun y hy z hz => by
      rw [List.mem_singleton] at hz; subst hz
      exact M.lo1 y hy _ (by rw [di]; exact List.mem_cons_self)⟩
  · intro y hy z hz
    rcases List.mem_append.mp hy with q | q
    · exact M.lo1 y q z (by rw [di]; exact List.mem_cons_of_mem _ hz)
    · rw [List.mem_singleton] at q; subst q
      exact asc_drop a1 hi z hz
  · intro y hy z hz
    rcases List.mem_append.mp hy with q | q
    · exact M.lo2 y q z hz
    · rw [List.mem_singleton] at q; subst q
      rw [dj] at hz
      rcases List.mem_cons.mp hz with e | e
      · subst e; exact hlt
      · exact txt_trans hlt (asc_drop a2 hj z e)
theorem mg_end {l1 l2 F : List Txt} {i j : Nat} (M : Mg l1 l2 F i j) (a1 : Asc l1) (a2 : Asc l2) (h : ¬ (i < l1.length ∧ j < l2.length)) : Asc (F ++ l1.drop i ++ l2.drop j) ∧ ∀ z, z ∈ F ++ l1.drop i ++ l2.drop j ↔ z ∈ l1 ∨ z ∈ l2 := by
  constructor
  · by_cases hi : i < l1.length
    · have : l2.drop j = [] := List.drop_eq_nil_of_le (by omega)
      rw [this, List.append_nil, Asc, List.pairwise_append]
      exact ⟨M.asc, a1.sublist (List.drop_sublist _ _), M.lo1⟩
    · have : l1.drop i = [] := List.drop_eq_nil_of_le (by omega)
      rw [this, List.append_nil, Asc, List.pairwise_append]
      exact ⟨M.asc, a2.sublist (List.drop_sublist _ _), M.lo2⟩
  · intro z
    rw [List.mem_append, List.mem_append, M.mem z]
    have s1 : z ∈ l1 ↔ z ∈ l1.take i ∨ z ∈ l1.drop i := by rw [← List.mem_append, List.take_append_drop]
    have s2 : z ∈ l2 ↔ z ∈ l2.take j ∨ z ∈ l2.drop j := by rw [← List.mem_append, List.take_append_drop]
    rw [s1, s2]
    constructor
    · rintro (((q | q) | q) | q)
      · exact .inl (.inl q)
      · exact .inr (.inl q)
      · exact .inl (.inr q)
      · exact .inr (.inr q)
    · rintro ((q | q) | (q | q))
      · exact .inl (.inl (.inl q))
      · exact .inl (.inr q)
      · exact .inl (.inl (.inr q))
      · exact .inr q
theorem cut_from {l : List Txt} {i : Nat} (hi : i ≤ l.length) : cut (txts l) (some (i : Int)) none = txts (l.drop i) := by
  have h0 : ¬ ((i : Int) < 0) := by omega
  simp [cut, sIx, txts, h0, Nat.min_eq_left hi, List.map_drop, List.take_of_length_le]
theorem slice_from {H : Heap} {k i : Nat} {l : List Txt} (e : H[k]? = some (.lst (txts l))) (hi : i ≤ l.length) : o_slice (.ref k) (some (i : Int)) none H = .ok (.ref H.length) (H ++ [.lst (txts (l.drop i))]) := by
  simp only [o_slice, e, cut_from hi, newO]
theorem add_lists {H : Heap} {x y : Nat} {s t : List Txt} (e1 : H[x]? = some (.lst (txts s))) (e2 : H[y]? = some (.lst (txts t))) (hl : s.length + t.length ≤ 16777216) : o_add (.ref x) (.ref y) H = .ok (.ref H.length) (H ++ [.lst (txts (s ++ t))]) := by
  have : (txts s).length + (txts t).length ≤ LIM := by simpa [LIM] using hl
  simp only [o_add, e1, e2, this, if_true, newO, txts, List.map_append]
theorem merged_spec {n a b : Nat} {h : Heap} {l1 l2 : List Txt} (hn : 4 ≤ n) (ha : h[a]? = some (.lst (txts l1))) (hb : h[b]? = some (.lst (txts l2))) (a1 : Asc l1) (a2 : Asc l2) (ne : ∀ x ∈ l1, x ∉ l2) (n1 : l1.length < 1000) (n2 : l2.length < 1000) :
    ∃ out, callF (prog sh) n 2 [.ref a, .ref b] h = .ok (.ref h.length) (h ++ [.lst (txts out)]) ∧ Asc out ∧ (∀ z, z ∈ out ↔ z ∈ l1 ∨ z ∈ l2) ∧ out.length = l1.length + l2.length := by
  obtain ⟨m, rfl⟩ : ∃ m, n = m + 4 := ⟨n - 4, by omega⟩
  rw [callF_succ _ _ _ _ _ d_merged rfl]
  obtain ⟨σ', h', ⟨F, i, j, M, e1, e2, hz⟩, wr⟩ := while_inv (t := t_and (t_b (e_2 o_lt (e_var 3) (e_call b_len (a_cons (e_var 0) (a_nil))))) (t_b (e_2 o_lt (e_var 4) (e_call b_len (a_cons (e_var 1) (a_nil))))))
    (body := s_if (t_b (e_2 o_lt (e_2 o_item (e_var 1) (e_var 4)) (e_2 o_item (e_var 0) (e_var 3)))) (s_cons (s_expr (e_lm m_append (e_var 2) (e_2 o_item (e_var 1) (e_var 4)))) (
      s_aug 4 o_addI (e_c (.int 1)))) (s_cons (s_expr (e_lm m_append (e_var 2) (e_2 o_item (e_var 0) (e_var 3)))) (
      s_aug 3 o_addI (e_c (.int 1)))))
    (σ := [some (.ref a), some (.ref b), some (.ref h.length), some (.int 0), some (.int 0)]) (h := h ++ [.lst []])
    (fun σ h' => ∃ F i j, Mg l1 l2 F i j ∧ h' = h ++ [.lst (txts F)] ∧ σ = [some (.ref a), some (.ref b), some (.ref h.length), some (.int (i : Nat)), some (.int (j : Nat))])
    (fun σ _ => l1.length + l2.length - ((match σ[3]? with | some (some (D.int k)) => k.toNat | _ => 0) + (match σ[4]? with | some (some (D.int k)) => k.toNat | _ => 0)))
    (fun σ h' => ∃ F i j, Mg l1 l2 F i j ∧ h' = h ++ [.lst (txts F)] ∧ σ = [some (.ref a), some (.ref b), some (.ref h.length), some (.int (i : Nat)), some (.int (j : Nat))] ∧ ¬ (i < l1.length ∧ j < l2.length))
    ⟨[], 0, 0, ⟨by omega, by omega, rfl, by simp, List.Pairwise.nil, by simp, by simp⟩, rfl, rfl⟩ (by simp only [WF]; omega) (fun σ h' ⟨F, i, j, M, e1, e2⟩ => by
      subst e1 e2
      have ga := fun o => get_old (g := [o]) ha
      have gb := fun o => get_old (g := [o]) hb
      by_cases hi : i < l1.length
      · by_cases hj : j < l2.length
        · have it1 : atI (txts l1) (i : Int) = some (.str l1[i]) := by simp [atI, ixN, txts, hi]
          have it2 : atI (txts l2) (j : Int) = some (.str l2[j]) := by simp [atI, ixN, txts, hj]
          have Fl : F.length < 16777216 := by have := M.len; have := M.ib; have := M.jb; omega
          have fs : (h ++ [LO.lst (txts F)])[h.length]? = some (.lst (txts F)) := get_new
          have gset : ∀ w, gc (h ++ [LO.lst (txts F)]) (.ok .non (h ++ [.lst (txts F ++ [.str w])])) = .ok .non (h ++ [.lst (txts F ++ [.str w])]) := fun w => by
            have := gc_set0 (h := h ++ [LO.lst (txts F)]) (v := .non) (p := h.length) (o := .lst (txts F ++ [.str w])) rfl (by
              have := pures_strs (F ++ [w])
              rw [show txts (F ++ [w]) = txts F ++ [.str w] from by simp] at this
              exact this)
            rw [set_new] at this; exact this
          have hs : ∀ w, txts (F ++ [w]) = txts F ++ [.str w] := fun w => by simp
          by_cases hlt : l2[j] < l1[i]
          · refine ⟨true, h ++ [.lst (txts F)], ?_, by simp, fun _ => ⟨[some (.ref a), some (.ref b), some (.ref h.length), some (.int i), some (.int (j + 1 : Nat))], h ++ [.lst (txts (F ++ [l2[j]]))], ?_, ⟨_, i, j + 1, mg_swap (mg_step (mg_swap M) a2 a1 hj hi hlt), rfl, rfl⟩, ?_⟩⟩
            · simp [t_and, t_b, e_2, e_var, e_call, a_cons, a_nil, b_len, lenD, ga, gb, liftO_some, o_lt, okB, asB, hi, hj]
              exact gcB_self
            · rw [hs]
              simp [s_if, t_b, e_2, e_var, o_item, items, ga, gb, it1, it2, liftO_some, o_lt, ltT, hlt, okB, asB, gcB_self, s_cons, s_expr, e_lm, isLst, m_append, Fl, LIM, gset, Flow.then, s_aug, e_c, o_addI]
            · show l1.length + l2.length - (i + (j + 1)) < l1.length + l2.length - (i + j)
              omega
          · have hne : l2[j] ≠ l1[i] := fun q => ne l1[i] (List.getElem_mem hi) (q ▸ List.getElem_mem hj)
            refine ⟨true, h ++ [.lst (txts F)], ?_, by simp, fun _ => ⟨[some (.ref a), some (.ref b), some (.ref h.length), some (.int (i + 1 : Nat)), some (.int j)], h ++ [.lst (txts (F ++ [l1[i]]))], ?_, ⟨_, i + 1, j, mg_step M a1 a2 hi hj (txt_total hlt hne), rfl, rfl⟩, ?_⟩⟩
            · simp [t_and, t_b, e_2, e_var, e_call, a_cons, a_nil, b_len, lenD, ga, gb, liftO_some, o_lt, okB, asB, hi, hj]
              exact gcB_self
            · rw [hs]
              simp [s_if, t_b, e_2, e_var, o_item, items, ga, gb, it1, it2, liftO_some, o_lt, ltT, hlt, okB, asB, gcB_self, s_cons, s_expr, e_lm, isLst, m_append, Fl, LIM, gset, Flow.then, s_aug, e_c, o_addI]
            · show l1.length + l2.length - (i + 1 + j) < l1.length + l2.length - (i + j)
              omega
        · refine ⟨false, h ++ [.lst (txts F)], ?_, fun _ => ⟨F, i, j, M, rfl, rfl, fun q => hj q.2⟩, by simp⟩
          simp [t_and, t_b, e_2, e_var, e_call, a_cons, a_nil, b_len, lenD, ga, gb, liftO_some, o_lt, okB, asB, hi, hj]
          exact gcB_self
      · refine ⟨false, h ++ [.lst (txts F)], ?_, fun _ => ⟨F, i, j, M, rfl, rfl, fun q => hi q.1⟩, by simp⟩
        simp [t_and, t_b, e_2, e_var, e_call, a_cons, a_nil, b_len, lenD, ga, gb, liftO_some, o_lt, okB, asB, hi]
        exact gcB_self)
  subst e1 e2
  obtain ⟨za, zm⟩ := mg_end M a1 a2 hz
  refine ⟨F ++ l1.drop i ++ l2.drop j, ?_, za, zm, by have := M.len; have := M.ib; have := M.jb; simp; omega⟩
  have fs : ∀ g, (h ++ LO.lst (txts F) :: g)[h.length]? = some (.lst (txts F)) := fun g => by simp
  have w1 : F.length + (l1.length - i) ≤ 16777216 := by have := M.len; have := M.ib; have := M.jb; omega
  have w2 : F.length + (l1.length - i) + (l2.length - j) ≤ 16777216 := by have := M.len; have := M.ib; have := M.jb; omega
  have body : b_merged (kap (prog sh) m) [some (.ref a), some (.ref b), none, none, none] h = .rt (.ref (h.length + 4)) (h ++ [.lst (txts F), .lst (txts (l1.drop i)), .lst (txts (F ++ l1.drop i)), .lst (txts (l2.drop j)), .lst (txts (F ++ l1.drop i ++ l2.drop j))]) := by
    unfold b_merged
    have g0 : gc h (.ok (.ref h.length) (h ++ [.lst []])) = .ok (.ref h.length) (h ++ [.lst []]) := gc_new get_new (Nat.le_refl _) rfl
    have s1 : s_asg (e_lst a_nil) (g_name 2) [some (.ref a), some (.ref b), none, none, none] h = .nx [some (.ref a), some (.ref b), some (.ref h.length), none, none] (h ++ [.lst []]) := by
      simp [s_asg, e_lst, a_nil, newO, LIM, g0, g_name]
    have s2 : s_asg (e_c (.int 0)) (g_name 3) [some (.ref a), some (.ref b), some (.ref h.length), none, none] (h ++ [.lst []]) = .nx [some (.ref a), some (.ref b), some (.ref h.length), some (.int 0), none] (h ++ [.lst []]) := by
      simp [s_asg, e_c, gc_int, g_name]
    have s3 : s_asg (e_c (.int 0)) (g_name 4) [some (.ref a), some (.ref b), some (.ref h.length), some (.int 0), none] (h ++ [.lst []]) = .nx [some (.ref a), some (.ref b), some (.ref h.length), some (.int 0), some (.int 0)] (h ++ [.lst []]) := by
      simp [s_asg, e_c, gc_int, g_name]
    simp only [s_cons, s1, s2, s3, Flow.then, wr]
    have ga : ∀ g, (h ++ g)[a]? = some (.lst (txts l1)) := fun g => get_old ha
    have gb : ∀ g, (h ++ g)[b]? = some (.lst (txts l2)) := fun g => get_old hb
    have o1 := slice_from (H := h ++ [.lst (txts F)]) (ga _) M.ib
    have o2 := add_lists (H := h ++ [.lst (txts F)] ++ [.lst (txts (l1.drop i))]) (x := h.length) (y := (h ++ [LO.lst (txts F)]).length) (s := F) (t := l1.drop i) (by simp) get_new (by simpa using w1)
    have o3 := slice_from (H := h ++ [.lst (txts F)] ++ [.lst (txts (l1.drop i))] ++ [.lst (txts (F ++ l1.drop i))]) (k := b) (l := l2) (by rw [List.append_assoc, List.append_assoc]; exact gb _) M.jb
    have o4 := add_lists (H := h ++ [.lst (txts F)] ++ [.lst (txts (l1.drop i))] ++ [.lst (txts (F ++ l1.drop i))] ++ [.lst (txts (l2.drop j))]) (x := (h ++ [LO.lst (txts F)] ++ [LO.lst (txts (l1.drop i))]).length) (y := (h ++ [LO.lst (txts F)] ++ [LO.lst (txts (l1.drop i))] ++ [LO.lst (txts (F ++ l1.drop i))]).length) (s := F ++ l1.drop i) (t := l2.drop j) (by simp) get_new (by simpa [Nat.add_assoc] using w2)
    simp only [s_ret, e_2, e_var, e_slice, so_some, so_none, List.getElem?_cons_zero, List.getElem?_cons_succ, Res.bind_ok, asI, liftO_some, o1, o2, o3, o4, Res.to_ok]
    simp
  rw [run_rt rfl (v := .ref (h.length + 4)) (h' := h ++ [.lst (txts F), .lst (txts (l1.drop i)), .lst (txts (F ++ l1.drop i)), .lst (txts (l2.drop j)), .lst (txts (F ++ l1.drop i ++ l2.drop j))]) body]
  exact gc_new (by simp) (by omega) (pures_strs _)
end K01
end

section
set_option linter.all false
set_option autoImplicit false
set_option maxRecDepth 100000
set_option maxHeartbeats 1000000
namespace K01
open IR
variable {sh : PD → Txt}
/-- parts that hold the rows -/
structure Wh (rows : List Txt) (Ls : List (List Txt)) : Prop where
  asc : ∀ L ∈ Ls, Asc L
  apart : Ls.Pairwise fun a b => ∀ x ∈ a, x ∉ b
  mem : ∀ x, (∃ L ∈ Ls, x ∈ L) ↔ x ∈ rows
  sum : (Ls.map List.length).sum = rows.length
theorem Wh.few {rows : List Txt} {Ls : List (List Txt)} (w : Wh rows Ls) {L : List Txt} (h : L ∈ Ls) : L.length ≤ rows.length := by
  rw [← w.sum]
  have : ∀ (Ls : List (List Txt)), L ∈ Ls → L.length ≤ (Ls.map List.length).sum := by
    intro Ls
    induction Ls with
    | nil => intro h; cases h
    | cons a r ih =>
      intro h
      rw [List.map_cons, List.sum_cons]
      rcases List.mem_cons.mp h with e | e
      · subst e; omega
      · have := ih e; omega
  exact this Ls h
theorem Wh.step {rows : List Txt} {A R : List (List Txt)} {p q o : List Txt} (w : Wh rows (A ++ p :: q :: R)) (oa : Asc o) (om : ∀ z, z ∈ o ↔ z ∈ p ∨ z ∈ q) (ol : o.length = p.length + q.length) : Wh rows (A ++ [o] ++ R) := by
  have wa := w.apart
  rw [List.pairwise_append, List.pairwise_cons, List.pairwise_cons] at wa
  obtain ⟨h1, ⟨h2, h3, h4⟩, h5⟩ := wa
  refine ⟨fun L hL => ?_, ?_, fun x => ?_, ?_⟩
  · rcases List.mem_append.mp hL with h | h
    · rcases List.mem_append.mp h with h | h
      · exact w.asc L (List.mem_append.mpr (.inl h))
      · rw [List.mem_singleton] at h; subst h; exact oa
    · exact w.asc L (List.mem_append.mpr (.inr (List.mem_cons_of_mem _ (List.mem_cons_of_mem _ h))))
  · rw [List.append_assoc, List.pairwise_append, List.singleton_append, List.pairwise_cons]
    refine ⟨h1, ⟨fun b hb x hx => ?_, h4⟩, fun a ha b hb x hx => ?_⟩
    · rcases (om x).mp hx with e | e
      · exact h2 b (List.mem_cons_of_mem _ hb) x e
      · exact h3 b hb x e
    · rcases List.mem_cons.mp hb with e | e
      · subst e
        intro hxo
        rcases (om x).mp hxo with e | e
        · exact h5 a ha p List.mem_cons_self x hx e
        · exact h5 a ha q (List.mem_cons_of_mem _ List.mem_cons_self) x hx e
      · exact h5 a ha b (List.mem_cons_of_mem _ (List.mem_cons_of_mem _ e)) x hx
  · rw [← w.mem x]
    constructor
    · rintro ⟨L, hL, hx⟩
      rcases List.mem_append.mp hL with h | h
      · rcases List.mem_append.mp h with h | h
        · exact ⟨L, List.mem_append.mpr (.inl h), hx⟩
        · rw [List.mem_singleton] at h; subst h
          rcases (om x).mp hx with e | e
          · exact ⟨p, by simp, e⟩
          · exact ⟨q, by simp, e⟩
      · exact ⟨L, List.mem_append.mpr (.inr (List.mem_cons_of_mem _ (List.mem_cons_of_mem _ h))), hx⟩
    · rintro ⟨L, hL, hx⟩
      rcases List.mem_append.mp hL with h | h
      · exact ⟨L, by simp [h], hx⟩
      · rcases List.mem_cons.mp h with e | h
        · subst e; exact ⟨o, by simp, (om x).mpr (.inl hx)⟩
        · rcases List.mem_cons.mp h with e | h
          · subst e; exact ⟨o, by simp, (om x).mpr (.inr hx)⟩
          · exact ⟨L, by simp [h], hx⟩
  · have := w.sum
    simp only [List.map_append, List.map_cons, List.map_nil, List.sum_append, List.sum_cons, List.sum_nil] at this ⊢
    omega
theorem Wh.start {rows : List Txt} (nd : rows.Nodup) : Wh rows (rows.map fun r => [r]) := by
  refine ⟨fun L hL => ?_, ?_, fun x => ?_, ?_⟩
  · obtain ⟨r, _, rfl⟩ := List.mem_map.mp hL
    exact List.pairwise_singleton _ _
  · rw [List.pairwise_map]
    exact nd.imp fun h x hx hy => by
      rw [List.mem_singleton] at hx hy
      subst hx; exact h hy
  · constructor
    · rintro ⟨L, hL, hx⟩
      obtain ⟨r, hr, rfl⟩ := List.mem_map.mp hL
      rw [List.mem_singleton] at hx; subst hx; exact hr
    · intro hx
      exact ⟨[x], List.mem_map.mpr ⟨x, hx, rfl⟩, by simp⟩
  · induction rows with
    | nil => rfl
    | cons a r ih =>
      have := ih (List.nodup_cons.mp nd).2
      simp only [List.map_cons, List.sum_cons, List.length_cons, List.length_nil] at this ⊢
      omega
end K01
end

section
set_option linter.all false
set_option autoImplicit false
set_option maxRecDepth 100000
set_option maxHeartbeats 1000000
namespace K01
open IR
variable {sh : PD → Txt}
abbrev Ps := List (Nat × List Txt)
abbrev refs (ps : Ps) : List D := ps.map fun q => D.ref q.1
theorem gc_keep {h g : Heap} {r : Nat} {o : LO} (e : (h ++ g)[r]? = some o) (hp : o.pure = false) (hl : h.length ≤ r) : gc h (.ok (.ref r) (h ++ g)) = .ok (.ref r) (h ++ g) := by
  simp [gc, agree_app, D.pure, hl, e, hp]
theorem refs_impure {ps : Ps} (h : ps ≠ []) : (LO.lst (refs ps)).pure = false := by
  cases ps with
  | nil => exact (h rfl).elim
  | cons a r => simp [LO.pure, D.pures, D.pure]
theorem at_refs {ps : Ps} {i : Nat} (h : i < ps.length) : atI (refs ps) (i : Int) = some (.ref ps[i].1) := by simp [atI, ixN, refs, h]
theorem rd_refs {H : Heap} {ps : Ps} (hh : ∀ q ∈ ps, H[q.1]? = some (.lst (txts q.2))) : ∃ qs : List PD, mapO (rd H 59) (refs ps) = some qs ∧ qs.length = ps.length := by
  have rs : ∀ l : List Txt, mapO (rd H 58) (txts l) = some (l.map PD.str) := by
    intro l
    induction l with
    | nil => rfl
    | cons a r ih => simp only [txts, List.map_cons, mapO] at ih ⊢; rw [ih]; rfl
  induction ps with
  | nil => exact ⟨[], rfl, rfl⟩
  | cons a r ih =>
    obtain ⟨qs, e, l⟩ := ih fun q hq => hh q (List.mem_cons_of_mem _ hq)
    refine ⟨.list (a.2.map PD.str) :: qs, ?_, by simp [l]⟩
    have e1 : rd H 59 (.ref a.1) = some (.list (a.2.map PD.str)) := by
      show (match H[a.1]? with | some (.lst ds) => (mapO (rd H 58) ds).map PD.list | _ => none) = _
      rw [hh a List.mem_cons_self]
      simp [rs]
    simp only [refs, List.map_cons, mapO] at e ⊢
    rw [e1, e]
theorem eq_nil {H : Heap} {ps : Ps} {P Q : Nat} (hP : H[P]? = some (.lst (refs ps))) (hQ : H[Q]? = some (.lst [])) (hh : ∀ q ∈ ps, H[q.1]? = some (.lst (txts q.2))) : eqD H (.ref P) (.ref Q) = some (decide (ps = [])) := by
  obtain ⟨qs, e, l⟩ := rd_refs hh
  have e1 : rd H DEEP (.ref P) = some (.list qs) := by
    show (match H[P]? with | some (.lst ds) => (mapO (rd H 59) ds).map PD.list | _ => none) = _
    rw [hP]; simp [e]
  have e2 : rd H DEEP (.ref Q) = some (.list []) := by
    show (match H[Q]? with | some (.lst ds) => (mapO (rd H 59) ds).map PD.list | _ => none) = _
    rw [hQ]; rfl
  simp only [eqD, e1, e2]
  cases ps with
  | nil => cases qs with
    | nil => rfl
    | cons _ _ => simp at l
  | cons a r => cases qs with
    | nil => simp at l
    | cons _ _ => simp [PD.eqv, PD.eqvs]
/-- the first parts -/
theorem parts_first {h : Heap} {r : Nat} {rows : List Txt} (hr : h[r]? = some (.lst (txts rows))) (hl : rows.length < 1000) :
    ∃ (x : Heap) (ps : Ps), e_lc (i_list (e_var 0)) (g_name 3) t_yes (e_lst (a_cons (e_var 3) a_nil)) [3] [some (.ref r), none, none, none, none] h = .ok (.ref h.length) (h ++ .lst (refs ps) :: x) ∧
      (∀ q ∈ ps, ∃ m, q.1 = h.length + 1 + m ∧ x[m]? = some (.lst (txts q.2))) ∧ (ps.map (·.2) = rows.map fun w => [w]) ∧ x.length = ps.length := by
  obtain ⟨x, acc, ⟨ps, pl, rfl, hh, e, xl⟩, lc⟩ := lc_mid (it := i_list (e_var 0)) (g := g_name 3) (t := t_yes) (e := e_lst (a_cons (e_var 3) a_nil)) (own := [3]) (σ := [some (.ref r), none, none, none, none]) (h := h) (src := ⟨txts rows, [(r, .lst (txts rows))]⟩)
    (fun i x acc => ∃ ps : Ps, ps.length = i ∧ acc = refs ps ∧ (∀ q ∈ ps, ∃ m, q.1 = h.length + 1 + m ∧ x[m]? = some (.lst (txts q.2))) ∧ (ps.map (·.2) = (rows.take i).map fun w => [w]) ∧ x.length = i)
    (by simp [i_list, e_var, hr]) (fun i x acc ⟨ps, pl, e, _⟩ => by subst e; exact ⟨by simp [pl], by simp [Src.ok, get_old hr]⟩) (by simp only [txts, List.length_map, LIM]; omega) ⟨[], rfl, rfl, by simp, by simp, rfl⟩
    (fun i x z acc hz ⟨ps, pl, e, hh, pm, xl⟩ => by
      subst e
      obtain ⟨w, hw, rfl⟩ : ∃ w, rows[i]? = some w ∧ z = .str w := by
        simp only [txts, List.getElem?_map, Option.map_eq_some_iff] at hz
        obtain ⟨w, h1, h2⟩ := hz
        exact ⟨w, h1, h2.symm⟩
      refine ⟨_, rfl, true, rfl, by simp, fun _ => ⟨.ref (h.length + 1 + x.length), x ++ [.lst (txts [w])], ?_, ps ++ [(h.length + 1 + x.length, [w])], by simp [pl], by simp, ?_, ?_, by simp [xl]⟩⟩
      · have g := gc_new (h := h ++ .lst (refs ps) :: x) (g := [.lst (txts [w])]) (r := (h ++ .lst (refs ps) :: x).length) get_new (Nat.le_refl _) (pures_strs [w])
        have ln : (h ++ LO.lst (refs ps) :: x).length = h.length + 1 + x.length := by simp; omega
        simp only [ln] at g
        simp [wipe, e_lst, a_cons, a_nil, e_var, LIM, newO]
        simpa [Nat.add_assoc, Nat.add_comm, Nat.add_left_comm] using g
      · intro q hq
        rcases List.mem_append.mp hq with e | e
        · obtain ⟨m, m1, m2⟩ := hh q e
          exact ⟨m, m1, get_old m2⟩
        · rw [List.mem_singleton] at e; subst e
          exact ⟨x.length, rfl, get_new⟩
      · rw [List.map_append, pm, List.take_add_one, hw]; simp)
  refine ⟨x, ps, lc, hh, ?_, by rw [xl, pl]⟩
  rw [e]; simp
end K01
end

section
set_option linter.all false
set_option autoImplicit false
set_option maxRecDepth 100000
set_option maxHeartbeats 1000000
namespace K01
open IR
variable {sh : PD → Txt}
theorem Wh.two {rows : List Txt} {A R : List (List Txt)} {p q : List Txt} (w : Wh rows (A ++ p :: q :: R)) : Asc p ∧ Asc q ∧ (∀ x ∈ p, x ∉ q) ∧ p.length ≤ rows.length ∧ q.length ≤ rows.length := by
  have wa := w.apart
  rw [List.pairwise_append, List.pairwise_cons] at wa
  exact ⟨w.asc p (by simp), w.asc q (by simp), wa.2.1.1 q List.mem_cons_self, w.few (by simp), w.few (by simp)⟩
theorem len_ref {H : Heap} {P : Nat} {ds : List D} (e : H[P]? = some (.lst ds)) : b_len [.ref P] H = .ok (.int ds.length) H := by simp [b_len, lenD, e, liftO_some]
theorem pairs_step {N r P : Nat} {H : Heap} {ps : Ps} {rows : List Txt} {s2 s3 s4 : Option D} (hn : 4 ≤ N) (hP : H[P]? = some (.lst (refs ps))) (hh : ∀ q ∈ ps, H[q.1]? = some (.lst (txts q.2))) (w : Wh rows (ps.map (·.2))) (hl : rows.length < 1000) (few : ps.length < 1000) (pos : 1 < ps.length) :
    ∃ (x : Heap) (qs : Ps), e_lc (i_rng3 (e_c (.int 0)) (e_2 o_sub (e_call b_len (a_cons (e_var 1) (a_nil))) (e_c (.int 1))) (e_c (.int 2))) (g_name 4) (t_yes) (e_call (callF (prog sh) N 2) (a_cons (e_2 o_item (e_var 1) (e_var 4)) (a_cons (e_2 o_item (e_var 1) (e_2 o_add (e_var 4) (e_c (.int 1)))) (a_nil)))) [4]
        [some (.ref r), some (.ref P), s2, s3, s4] H = .ok (.ref H.length) (H ++ .lst (refs qs) :: x) ∧ qs.length = ps.length / 2 ∧
      (∀ q ∈ qs, ∃ m, q.1 = H.length + 1 + m ∧ x[m]? = some (.lst (txts q.2))) ∧ Wh rows ((qs ++ ps.drop (2 * qs.length)).map (·.2)) := by
  have cnt : (((ps.length : Int) - 1 - 0 + 2 - 1) / 2).toNat = ps.length / 2 := by omega
  obtain ⟨x, acc, ⟨qs, ql, rfl, hq, wq⟩, lc⟩ := lc_mid (it := i_rng3 (e_c (.int 0)) (e_2 o_sub (e_call b_len (a_cons (e_var 1) (a_nil))) (e_c (.int 1))) (e_c (.int 2))) (g := g_name 4) (t := t_yes) (e := e_call (callF (prog sh) N 2) (a_cons (e_2 o_item (e_var 1) (e_var 4)) (a_cons (e_2 o_item (e_var 1) (e_2 o_add (e_var 4) (e_c (.int 1)))) (a_nil)))) (own := [4])
    (σ := [some (.ref r), some (.ref P), s2, s3, s4]) (h := H) (src := ⟨rng 0 (((ps.length : Int) - 1 - 0 + 2 - 1) / 2).toNat 2, []⟩)
    (fun i x acc => ∃ qs : Ps, qs.length = i ∧ acc = refs qs ∧ (∀ q ∈ qs, ∃ m, q.1 = H.length + 1 + m ∧ x[m]? = some (.lst (txts q.2))) ∧ Wh rows ((qs ++ ps.drop (2 * i)).map (·.2)))
    (by
      have b : (-B60 ≤ 0 ∧ (0 : Int) < B60 ∧ -B60 ≤ (ps.length : Int) - 1 ∧ (ps.length : Int) - 1 < B60 ∧ (0 : Int) < 2 ∧ (2 : Int) < 1073741824) := by simp only [B60]; omega
      simp only [i_rng3, e_c, e_2, e_call, a_cons, a_nil, e_var, List.getElem?_cons_zero, List.getElem?_cons_succ, Res.bind_ok, len_ref hP, o_sub, List.length_map]
      rw [if_pos b]) (fun i x acc ⟨qs, ql, e, _⟩ => by subst e; exact ⟨by simp [ql], rfl⟩) (by simp only [rng, List.length_map, List.length_range, LIM]; omega) ⟨[], rfl, rfl, by simp, by simpa using w⟩
    (fun i x z acc hz ⟨qs, ql, e, hq, wq⟩ => by
      subst e
      have hi : i < ps.length / 2 := by
        have := (List.getElem?_eq_some_iff.mp hz).1
        simp only [rng, List.length_map, List.length_range] at this
        omega
      have hz2 : z = .int (0 + (i : Nat) * 2) := by
        simp only [rng, List.getElem?_map, Option.map_eq_some_iff] at hz
        obtain ⟨k, hk, rfl⟩ := hz
        rw [List.getElem?_range (by omega)] at hk
        cases hk; rfl
      have k0 : 2 * i < ps.length := by omega
      have k1 : 2 * i + 1 < ps.length := by omega
      have zi : (0 + (i : Int) * 2) = ((2 * i : Nat) : Int) := by omega
      have zi1 : (((2 * i : Nat) : Int) + 1) = ((2 * i + 1 : Nat) : Int) := by omega
      rw [zi] at hz2
      subst hz2
      have dr : ps.drop (2 * i) = ps[2 * i] :: ps[2 * i + 1] :: ps.drop (2 * (i + 1)) := by
        rw [List.drop_eq_getElem_cons k0, List.drop_eq_getElem_cons k1]; rfl
      rw [dr] at wq
      simp only [List.map_append, List.map_cons] at wq
      obtain ⟨p1, p2, p3, p4, p5⟩ := wq.two
      have g1 : (H ++ .lst (refs qs) :: x)[ps[2 * i].1]? = some (.lst (txts ps[2 * i].2)) := get_old (hh _ (List.getElem_mem k0))
      have g2 : (H ++ .lst (refs qs) :: x)[ps[2 * i + 1].1]? = some (.lst (txts ps[2 * i + 1].2)) := get_old (hh _ (List.getElem_mem k1))
      have gP : (H ++ .lst (refs qs) :: x)[P]? = some (.lst (refs ps)) := get_old hP
      obtain ⟨out, mo, oa, om, ol⟩ := merged_spec (sh := sh) (n := N) (h := H ++ .lst (refs qs) :: x) hn g1 g2 p1 p2 p3 (by omega) (by omega)
      have ln : (H ++ LO.lst (refs qs) :: x).length = H.length + 1 + x.length := by simp; omega
      have gg := gc_new (h := H ++ .lst (refs qs) :: x) (g := [.lst (txts out)]) (r := (H ++ .lst (refs qs) :: x).length) get_new (Nat.le_refl _) (pures_strs out)
      refine ⟨_, rfl, true, rfl, by simp, fun _ => ⟨.ref (H.length + 1 + x.length), x ++ [.lst (txts out)], ?_, qs ++ [(H.length + 1 + x.length, out)], by simp [ql], by simp, ?_, ?_⟩⟩
      · have ev : e_call (callF (prog sh) N 2) (a_cons (e_2 o_item (e_var 1) (e_var 4)) (a_cons (e_2 o_item (e_var 1) (e_2 o_add (e_var 4) (e_c (.int 1)))) (a_nil))) ((wipe [some (.ref r), some (.ref P), s2, s3, s4] [4]).set 4 (some (.int ((2 * i : Nat) : Int)))) (H ++ .lst (refs qs) :: x) = .ok (.ref (H ++ .lst (refs qs) :: x).length) (H ++ .lst (refs qs) :: x ++ [.lst (txts out)]) := by
          simp only [wipe, e_call, a_cons, a_nil, e_2, e_var, e_c, List.set_cons_succ, List.set_cons_zero, List.getElem?_cons_zero, List.getElem?_cons_succ, Res.bind_ok, o_item, items, gP, at_refs k0, liftO_some, o_add, zi1, at_refs k1, mo]
        rw [ev, gg, ln]
        simp
      · intro q hq'
        rcases List.mem_append.mp hq' with e | e
        · obtain ⟨m, m1, m2⟩ := hq q e
          exact ⟨m, m1, get_old m2⟩
        · rw [List.mem_singleton] at e; subst e
          exact ⟨x.length, rfl, get_new⟩
      · have := wq.step oa om ol
        simpa using this)
  refine ⟨x, qs, lc, ?_, hq, ?_⟩
  · rw [ql]; simp only [rng, List.length_map, List.length_range]; omega
  · rw [ql]; exact wq
end K01
end

section
set_option linter.all false
set_option autoImplicit false
set_option maxRecDepth 100000
set_option maxHeartbeats 1000000
namespace K01
open IR
variable {sh : PD → Txt}
theorem cut_refs {ps : Ps} {i : Nat} (hi : i ≤ ps.length) : cut (refs ps) (some (i : Int)) none = refs (ps.drop i) := by
  have h0 : ¬ ((i : Int) < 0) := by omega
  simp [cut, sIx, refs, h0, Nat.min_eq_left hi, List.map_drop, List.take_of_length_le]
theorem add_gen {H : Heap} {x y : Nat} {s t : List D} (e1 : H[x]? = some (.lst s)) (e2 : H[y]? = some (.lst t)) (hl : s.length + t.length ≤ LIM) : o_add (.ref x) (.ref y) H = .ok (.ref H.length) (H ++ [.lst (s ++ t)]) := by
  simp only [o_add, e1, e2, hl, if_true, newO]
structure PInv (h : Heap) (r : Nat) (rows : List Txt) (σ : Env) (H : Heap) (ps : Ps) (P : Nat) (s2 s3 s4 : Option D) (g : Heap) : Prop where
  heap : H = h ++ g
  at_ : H[P]? = some (.lst (refs ps))
  new : h.length ≤ P
  held : ∀ q ∈ ps, H[q.1]? = some (.lst (txts q.2)) ∧ h.length ≤ q.1
  wh : Wh rows (ps.map (·.2))
  few : ps.length < 1000
  env : σ = [some (.ref r), some (.ref P), s2, s3, s4]
def measP (σ : Env) (H : Heap) : Nat := match σ[1]? with
  | some (some (D.ref P)) => (match H[P]? with
    | some (.lst ds) => ds.length
    | _ => 0)
  | _ => 0
theorem PInv.meas {h H g : Heap} {r P : Nat} {rows : List Txt} {σ : Env} {ps : Ps} {s2 s3 s4 : Option D} (I : PInv h r rows σ H ps P s2 s3 s4 g) : measP σ H = ps.length := by
  simp [measP, I.env, I.at_]
theorem in_order_spec {n r : Nat} {h : Heap} {rows : List Txt} (hn : 5 ≤ n) (hr : h[r]? = some (.lst (txts rows))) (nd : rows.Nodup) (hl : rows.length < 1000) :
    ∃ out, callF (prog sh) n 3 [.ref r] h = .ok (.ref h.length) (h ++ [.lst (txts out)]) ∧ Asc out ∧ (∀ z, z ∈ out ↔ z ∈ rows) ∧ out.length = rows.length := by
  obtain ⟨m, rfl⟩ : ∃ m, n = m + 1 + 4 := ⟨n - 5, by omega⟩
  rw [callF_succ _ _ _ _ _ d_in_order rfl]
  obtain ⟨x0, ps0, lc0, hh0, e0, xl0⟩ := parts_first (r := r) hr hl
  have l0 : ps0.length = rows.length := by have := congrArg List.length e0; simpa using this
  have first : s_asg (e_lc (i_list (e_var 0)) (g_name 3) (t_yes) (e_lst (a_cons (e_var 3) (a_nil))) [3]) (g_name 1) [some (.ref r), none, none, none, none] h = .nx [some (.ref r), some (.ref h.length), none, none, none] (h ++ .lst (refs ps0) :: x0) := by
    have g : gc h (.ok (.ref h.length) (h ++ .lst (refs ps0) :: x0)) = .ok (.ref h.length) (h ++ .lst (refs ps0) :: x0) := by
      by_cases hz : ps0 = []
      · subst hz
        have x0n : x0 = [] := List.eq_nil_of_length_eq_zero (by rw [xl0]; rfl)
        subst x0n
        exact gc_new get_new (Nat.le_refl _) rfl
      · exact gc_keep mid_get (refs_impure hz) (Nat.le_refl _)
    simp only [s_asg, lc0, g, Res.to_ok, g_name, onlyNx_nx]
    rfl
  have I0 : PInv h r rows [some (.ref r), some (.ref h.length), none, none, none] (h ++ .lst (refs ps0) :: x0) ps0 h.length none none none (.lst (refs ps0) :: x0) := by
    refine ⟨rfl, mid_get, Nat.le_refl _, fun q hq => ?_, by rw [e0]; exact Wh.start nd, by omega, rfl⟩
    obtain ⟨j, j1, j2⟩ := hh0 q hq
    refine ⟨?_, by omega⟩
    rw [j1, List.getElem?_append_right (by omega)]
    rw [show h.length + 1 + j - h.length = j + 1 by omega]
    simpa using j2
  obtain ⟨σ', H, ⟨ps, P, s2, s3, s4, g, I, hz⟩, wr⟩ := while_inv (t := t_b (e_2 o_gt (e_call b_len (a_cons (e_var 1) (a_nil))) (e_c (.int 1))))
    (body := s_cons (s_asg (e_lc (i_rng3 (e_c (.int 0)) (e_2 o_sub (e_call b_len (a_cons (e_var 1) (a_nil))) (e_c (.int 1))) (e_c (.int 2))) (g_name 4) (t_yes) (e_call ((kap (prog sh) (m + 1)).fn 2) (a_cons (e_2 o_item (e_var 1) (e_var 4)) (a_cons (e_2 o_item (e_var 1) (e_2 o_add (e_var 4) (e_c (.int 1)))) (a_nil)))) [4]) (g_name 2)) (
      s_asg (e_2 o_add (e_var 2) (e_slice (e_var 1) (so_some (e_2 o_mul (e_c (.int 2)) (e_call b_len (a_cons (e_var 2) (a_nil))))) so_none)) (g_name 1)))
    (fun σ H => ∃ ps P s2 s3 s4 g, PInv h r rows σ H ps P s2 s3 s4 g) measP
    (fun σ H => ∃ ps P s2 s3 s4 g, PInv h r rows σ H ps P s2 s3 s4 g ∧ ¬ 1 < ps.length) ⟨_, _, _, _, _, _, I0⟩ (by rw [I0.meas]; have := I0.few; simp only [WF]; omega)
    (fun σ H ⟨ps, P, s2, s3, s4, g, I⟩ => by
      have ht : gcB H (t_b (e_2 o_gt (e_call b_len (a_cons (e_var 1) (a_nil))) (e_c (.int 1))) σ H) = .ok (decide (1 < ps.length)) H := by
        rw [I.env]
        simp only [t_b, e_2, e_call, a_cons, a_nil, e_var, e_c, List.getElem?_cons_zero, List.getElem?_cons_succ, Res.bind_ok, len_ref I.at_, o_gt, okB, asB, liftO_some, List.length_map]
        rw [gcB_self]
        congr 1
        simp
        omega
      refine ⟨_, H, ht, fun hf => ⟨ps, P, s2, s3, s4, g, I, of_decide_eq_false hf⟩, fun ht' => ?_⟩
      have pos := of_decide_eq_true ht'
      obtain ⟨x, qs, lc, ql, hq, wq⟩ := pairs_step (sh := sh) (N := m + 1 + 3) (r := r) (s2 := s2) (s3 := s3) (s4 := s4) (by omega) I.at_ (fun q hq => (I.held q hq).1) I.wh hl I.few pos
      have qne : qs ≠ [] := by intro e; subst e; simp at ql; omega
      have g1 : gc H (.ok (.ref H.length) (H ++ .lst (refs qs) :: x)) = .ok (.ref H.length) (H ++ .lst (refs qs) :: x) := gc_keep mid_get (refs_impure qne) (Nat.le_refl _)
      have H1P : (H ++ LO.lst (refs qs) :: x)[P]? = some (LO.lst (refs ps)) := get_old I.at_
      have H1Q : (H ++ LO.lst (refs qs) :: x)[H.length]? = some (LO.lst (refs qs)) := mid_get
      have z2 : (2 : Int) * (qs.length : Int) = ((2 * qs.length : Nat) : Int) := by omega
      have kl : 2 * qs.length ≤ ps.length := by omega
      have ll : (refs qs).length + (refs (ps.drop (2 * qs.length))).length ≤ LIM := by
        have := I.few
        simp only [refs, List.length_map, List.length_drop, LIM]; omega
      have ad := add_gen (H := H ++ LO.lst (refs qs) :: x ++ [LO.lst (refs (ps.drop (2 * qs.length)))]) (x := H.length) (y := (H ++ LO.lst (refs qs) :: x).length) (get_old H1Q) get_new ll
      have ne2 : (qs ++ ps.drop (2 * qs.length) : Ps) ≠ [] := by simp [qne]
      have rf : refs qs ++ refs (ps.drop (2 * qs.length)) = refs (qs ++ ps.drop (2 * qs.length)) := by simp
      rw [rf] at ad
      have lastE : (H ++ LO.lst (refs qs) :: x ++ [LO.lst (refs (ps.drop (2 * qs.length)))] ++ [LO.lst (refs (qs ++ ps.drop (2 * qs.length)))])[(H ++ LO.lst (refs qs) :: x ++ [LO.lst (refs (ps.drop (2 * qs.length)))]).length]? = some (LO.lst (refs (qs ++ ps.drop (2 * qs.length)))) := get_new
      have g2 : gc (H ++ LO.lst (refs qs) :: x) (.ok (.ref (H ++ LO.lst (refs qs) :: x ++ [LO.lst (refs (ps.drop (2 * qs.length)))]).length) (H ++ LO.lst (refs qs) :: x ++ [LO.lst (refs (ps.drop (2 * qs.length)))] ++ [LO.lst (refs (qs ++ ps.drop (2 * qs.length)))])) = .ok (.ref (H ++ LO.lst (refs qs) :: x ++ [LO.lst (refs (ps.drop (2 * qs.length)))]).length) (H ++ LO.lst (refs qs) :: x ++ [LO.lst (refs (ps.drop (2 * qs.length)))] ++ [LO.lst (refs (qs ++ ps.drop (2 * qs.length)))]) := by
        rw [List.append_assoc (H ++ LO.lst (refs qs) :: x)] at lastE ⊢
        exact gc_keep lastE (refs_impure ne2) (by simp)
      have old : ∀ {k : Nat} {o : LO}, H[k]? = some o → (H ++ LO.lst (refs qs) :: x ++ [LO.lst (refs (ps.drop (2 * qs.length)))] ++ [LO.lst (refs (qs ++ ps.drop (2 * qs.length)))])[k]? = some o := fun e => get_old (get_old (get_old e))
      refine ⟨[some (.ref r), some (.ref (H ++ LO.lst (refs qs) :: x ++ [LO.lst (refs (ps.drop (2 * qs.length)))]).length), some (.ref H.length), s3, s4], H ++ LO.lst (refs qs) :: x ++ [LO.lst (refs (ps.drop (2 * qs.length)))] ++ [LO.lst (refs (qs ++ ps.drop (2 * qs.length)))], ?_, ?_⟩
      · rw [I.env]
        simp only [s_cons, s_asg]
        have lc2 : e_lc (i_rng3 (e_c (.int 0)) (e_2 o_sub (e_call b_len (a_cons (e_var 1) (a_nil))) (e_c (.int 1))) (e_c (.int 2))) (g_name 4) (t_yes) (e_call ((kap (prog sh) (m + 1)).fn 2) (a_cons (e_2 o_item (e_var 1) (e_var 4)) (a_cons (e_2 o_item (e_var 1) (e_2 o_add (e_var 4) (e_c (.int 1)))) (a_nil)))) [4] [some (.ref r), some (.ref P), s2, s3, s4] H = _ := lc
        rw [lc2, g1]
        simp only [Res.to_ok, g_name, onlyNx_nx, Flow.then, List.set_cons_succ, List.set_cons_zero]
        simp only [s_asg, e_2, e_var, e_slice, so_some, so_none, e_c, e_call, a_cons, a_nil, List.getElem?_cons_zero, List.getElem?_cons_succ, Res.bind_ok, len_ref H1Q, List.length_map, o_mul]
        rw [if_pos (.inl (by simp only [BIG]; decide)), z2]
        simp only [Res.bind_ok, asI, liftO_some, o_slice, H1P, cut_refs kl, newO, ad, g2, Res.to_ok, g_name, onlyNx_nx, List.set_cons_succ, List.set_cons_zero]
      · have I2 : PInv h r rows [some (.ref r), some (.ref (H ++ LO.lst (refs qs) :: x ++ [LO.lst (refs (ps.drop (2 * qs.length)))]).length), some (.ref H.length), s3, s4] (H ++ LO.lst (refs qs) :: x ++ [LO.lst (refs (ps.drop (2 * qs.length)))] ++ [LO.lst (refs (qs ++ ps.drop (2 * qs.length)))]) (qs ++ ps.drop (2 * qs.length)) ((H ++ LO.lst (refs qs) :: x ++ [LO.lst (refs (ps.drop (2 * qs.length)))]).length) (some (.ref H.length)) s3 s4 (g ++ (LO.lst (refs qs) :: x ++ [LO.lst (refs (ps.drop (2 * qs.length)))] ++ [LO.lst (refs (qs ++ ps.drop (2 * qs.length)))])) := by
          have hlen : h.length ≤ H.length := by rw [I.heap]; simp
          refine ⟨by rw [I.heap]; simp, get_new, by simp; omega, fun q hq' => ?_, wq, by have := I.few; simp; omega, rfl⟩
          rcases List.mem_append.mp hq' with e | e
          · obtain ⟨j, j1, j2⟩ := hq q e
            refine ⟨?_, by omega⟩
            rw [j1]
            refine get_old (get_old ?_)
            rw [List.getElem?_append_right (by omega), show H.length + 1 + j - H.length = j + 1 by omega]
            simpa using j2
          · have e' := List.mem_of_mem_drop e
            exact ⟨old (I.held q e').1, (I.held q e').2⟩
        refine ⟨⟨_, _, _, _, _, _, I2⟩, ?_⟩
        rw [I2.meas, I.meas]
        simp
        omega)
  -- the end
  have empty : H.length = H.length := rfl
  have rdn : eqD (H ++ [.lst []]) (.ref P) (.ref H.length) = some (decide (ps = [])) := eq_nil (get_old I.at_) get_new (fun q hq => get_old (I.held q hq).1)
  have body : ∃ (H2 : Heap) (k : Nat) (out : List Txt), b_in_order (kap (prog sh) (m + 1)) [some (.ref r), none, none, none, none] h = .rt (.ref k) (h ++ H2) ∧ (h ++ H2)[k]? = some (.lst (txts out)) ∧ h.length ≤ k ∧ Asc out ∧ (∀ z, z ∈ out ↔ z ∈ rows) ∧ out.length = rows.length := by
    cases ps with
    | nil =>
      have rn : rows = [] := by
        have := I.wh.sum
        simp at this
        exact List.eq_nil_of_length_eq_zero this.symm
      subst rn
      refine ⟨g ++ [.lst []] ++ [.lst []], (H ++ [LO.lst []]).length, [], ?_, ?_, by rw [I.heap]; simp, List.Pairwise.nil, by simp, rfl⟩
      · unfold b_in_order
        simp only [s_cons, first, Flow.then]
        have wr' := wr
        rw [I.env] at wr'
        simp only [s_cons] at wr'
        rw [wr']
        rw [show h ++ (g ++ [LO.lst []] ++ [LO.lst []]) = H ++ [LO.lst []] ++ [LO.lst []] by rw [I.heap]; simp]
        simp [s_ret, e_if, t_b, e_2, e_var, e_lst, a_nil, newO, o_ne, rdn, liftO_some, okB, asB, LIM]
      · rw [I.heap]
        have := get_new (h := h ++ g ++ [LO.lst []]) (o := .lst [])
        simpa using this
    | cons p ps' =>
      have one : ps' = [] := by
        cases ps' with
        | nil => rfl
        | cons a b => simp at hz
      subst one
      have wp := I.wh
      obtain ⟨hp1, hp2⟩ := I.held p List.mem_cons_self
      refine ⟨g ++ [.lst []], p.1, p.2, ?_, ?_, hp2, wp.asc p.2 (by simp), fun z => ?_, ?_⟩
      · unfold b_in_order
        simp only [s_cons, first, Flow.then]
        have wr' := wr
        rw [I.env] at wr'
        simp only [s_cons] at wr'
        rw [wr']
        have it : (H ++ [LO.lst []])[P]? = some (.lst (refs [p])) := get_old I.at_
        rw [← List.append_assoc h, ← I.heap]
        simp [s_ret, e_if, t_b, e_2, e_var, e_lst, a_nil, newO, o_ne, rdn, liftO_some, okB, asB, LIM, o_item, items, it, e_c, atI, ixN]
      · rw [← List.append_assoc, ← I.heap]
        exact get_old hp1
      · rw [← wp.mem z]; simp
      · have := wp.sum
        simpa using this
  obtain ⟨H2, k, out, be, hk, hkl, oa, om, ol⟩ := body
  refine ⟨out, ?_, oa, om, ol⟩
  rw [run_rt rfl (v := .ref k) (h' := h ++ H2) be]
  exact gc_new hk hkl (pures_strs out)
end K01
end

section
set_option linter.all false
set_option autoImplicit false
set_option maxRecDepth 100000
set_option maxHeartbeats 1000000
namespace K01
open IR
variable {sh : PD → Txt}
def minus (l m : List Txt) : List Txt := l.filter fun x => decide (x ∉ m)
theorem mem_minus {l m : List Txt} {z : Txt} : z ∈ minus l m ↔ z ∈ l ∧ ¬ z ∈ m := by simp [minus]
theorem minus_len (l m : List Txt) : (minus l m).length ≤ l.length := List.length_filter_le _ _
theorem minus_spec {n : Nat} {h : Heap} {l m : List Txt} (hn : 4 ≤ n) (hl : l.length < 1000) : callF (prog sh) n 6 [.tup (txts l), .tup (txts m)] h = .ok (.tup (txts (minus l m))) h := without_spec hn hl
theorem build_with_spec {n : Nat} {h : Heap} {l m : List Txt} (hn : 10 ≤ n) (hl : Kinds l) (hm : Kinds m) (ap : ∀ x ∈ l, x ∉ m) (few : l.length + m.length < 1000) :
    ∃ out, callF (prog sh) n 7 [.tup (txts l), .tup (txts m)] h = .ok (.ref h.length) (h ++ [inst out]) ∧ Kinds out ∧ ∀ z, z ∈ out ↔ z ∈ l ∨ z ∈ m := by
  obtain ⟨j, rfl⟩ : ∃ j, n = j + 4 := ⟨n - 4, by omega⟩
  rw [callF_succ _ _ _ _ _ d_build_with rfl]
  have nd : (l ++ m).Nodup := by
    rw [List.nodup_append]
    refine ⟨?_, ?_, fun a ha b hb e => ap a ha (e ▸ hb)⟩
    · exact hl.asc.imp fun {a b} (q : a < b) (e : a = b) => txt_irrefl a (by rw [← e] at q; exact q)
    · exact hm.asc.imp fun {a b} (q : a < b) (e : a = b) => txt_irrefl a (by rw [← e] at q; exact q)
  obtain ⟨out, io, oa, om, ol⟩ := in_order_spec (sh := sh) (n := j + 3) (r := h.length) (h := h ++ [.lst (txts (l ++ m))]) (rows := l ++ m) (by omega) get_new nd (by simpa using few)
  have ko : Kinds out := ⟨fun w hw => by
    have := (om w).mp hw
    rcases List.mem_append.mp this with q | q
    · exact hl.word w q
    · exact hm.word w q, oa, by rw [ol]; simpa using few⟩
  refine ⟨out, ?_, ko, fun z => by rw [om z, List.mem_append]⟩
  have nw := fun h => new_spec (sh := sh) (n := j) (h := h) (by omega) ko
  have ln : (l.length + m.length ≤ 16777216) := by omega
  rw [run_rt rfl (v := .ref (h.length + 2)) (h' := h ++ [.lst (txts (l ++ m)), .lst (txts out), inst out]) ?_]
  · refine gc_new ?_ (by omega) (inst_pure out)
    rw [List.getElem?_append_right (by omega)]
    rw [show h.length + 2 - h.length = 2 by omega]
    rfl
  · show b_build_with (kap (prog sh) j) [some (.tup (txts l)), some (.tup (txts m))] h = _
    unfold b_build_with
    have e1 : e_lst (a_star (e_var 0) (a_star (e_var 1) a_nil)) [some (.tup (txts l)), some (.tup (txts m))] h = .ok (.ref h.length) (h ++ [.lst (txts (l ++ m))]) := by
      simp [e_lst, a_star, e_var, a_nil, items, liftO_some, newO, LIM, ln]
    simp only [s_ret, e_call, a_cons, a_nil, e1, Res.bind_ok, io]
    have e2 : b_tuple [.ref (h ++ [LO.lst (txts (l ++ m))]).length] (h ++ [.lst (txts (l ++ m))] ++ [.lst (txts out)]) = .ok (.tup (txts out)) (h ++ [.lst (txts (l ++ m))] ++ [.lst (txts out)]) := by
      simp only [b_tuple, items, get_new, Option.map_some, liftO_some]
    simp only [e2, Res.bind_ok, nw, Res.to_ok]
    simp
/-- what stands for some kinds: a Build, a name -/
def IsK (h : Heap) (x : D) (l : List Txt) : Prop := (∃ a, x = .ref a ∧ h[a]? = some (inst l)) ∨ ∃ w, x = .str w ∧ Word w ∧ l = [w]
theorem IsK.app {h g : Heap} {x : D} {l : List Txt} (k : IsK h x l) : IsK (h ++ g) x l := by
  rcases k with ⟨a, e, q⟩ | q
  · exact .inl ⟨a, e, get_old q⟩
  · exact .inr q
theorem kinds_of_spec {n : Nat} {h : Heap} {x : D} {l : List Txt} (hn : 5 ≤ n) (k : IsK h x l) : callF (prog sh) n 5 [x] h = .ok (.tup (txts l)) h := by
  rcases k with ⟨a, rfl, q⟩ | ⟨w, rfl, q, rfl⟩
  · exact kinds_of_ref (by omega) q
  · exact kinds_of_str hn q
theorem Kinds.filter {l : List Txt} (k : Kinds l) (p : Txt → Bool) : Kinds (l.filter p) :=
  ⟨fun w hw => k.word w ((List.mem_filter.mp hw).1), k.asc.sublist List.filter_sublist, Nat.lt_of_le_of_lt (List.length_filter_le _ _) k.few⟩
theorem Kinds.minus {l : List Txt} (k : Kinds l) (m : List Txt) : Kinds (minus l m) := k.filter _
theorem fld_inst {h : Heap} {a : Nat} {l : List Txt} (e : h[a]? = some (inst l)) : o_fld "own_kinds" (.ref a) h = .ok (.tup (txts l)) h := by
  have e' : h[a]? = some (.ins 0 [("own_kinds", .tup (txts l))]) := e
  simp [o_fld, fldD, e', List.lookup, liftO_some]
theorem gc_inst {h g : Heap} {l : List Txt} {r : Nat} (hr : (h ++ g)[r]? = some (inst l)) (hl : h.length ≤ r) : gc h (.ok (.ref r) (h ++ g)) = .ok (.ref h.length) (h ++ [inst l]) := gc_new hr hl (inst_pure l)
theorem tup_not_non (ds : List D) : (D.tup ds = D.non) = False := by simp
section
variable {n a : Nat} {h : Heap} {y : D} {l m : List Txt}
theorem or_spec (hn : 14 ≤ n) (ha : h[a]? = some (inst l)) (ky : IsK h y m) (hl : Kinds l) (hm : Kinds m) (few : l.length + m.length < 1000) :
    ∃ out, callF (prog sh) n 14 [.ref a, y] h = .ok (.ref h.length) (h ++ [inst out]) ∧ Kinds out ∧ ∀ z, z ∈ out ↔ z ∈ l ∨ z ∈ m := by
  obtain ⟨j, rfl⟩ : ∃ j, n = j + 4 := ⟨n - 4, by omega⟩
  rw [callF_succ _ _ _ _ _ d_Build_or rfl]
  have wo := fun h => minus_spec (sh := sh) (n := j + 3) (h := h) (l := m) (m := l) (by omega) hm.few
  obtain ⟨out, bw, ko, om⟩ := build_with_spec (sh := sh) (n := j + 3) (h := h) (by omega) hl (hm.minus l) (fun x hx hy => (mem_minus.mp hy).2 hx) (by
    have := minus_len m l
    omega)
  refine ⟨out, ?_, ko, fun z => ?_⟩
  · have g1 : gc h (.ok (.tup (txts m)) h) = .ok (.tup (txts m)) h := gc_self (pures_strs m)
    have g2 : gc h (.ok (.ref h.length) (h ++ [inst out])) = .ok (.ref h.length) (h ++ [inst out]) := gc_inst get_new (Nat.le_refl _)
    simp [runDef, d_Build_or, b_Build_or, s_cons, s_asg, s_if, s_nil, s_ret, e_call, a_cons, a_nil, e_var, e_1, e_2, e_c, kinds_of_spec (sh := sh) (n := j + 3) (by omega) ky, g1, g_name, Flow.then, t_b, o_is, okB, asB, liftO_some, gcB_self, fld_inst ha, wo, bw, g2]
  · rw [om z]
    simp only [mem_minus]
    by_cases q : z ∈ l <;> simp [q]
theorem and_spec (hn : 14 ≤ n) (ha : h[a]? = some (inst l)) (ky : IsK h y m) (hl : Kinds l) (hm : Kinds m) :
    ∃ out, callF (prog sh) n 16 [.ref a, y] h = .ok (.ref h.length) (h ++ [inst out]) ∧ Kinds out ∧ ∀ z, z ∈ out ↔ z ∈ l ∧ z ∈ m := by
  obtain ⟨j, rfl⟩ : ∃ j, n = j + 4 := ⟨n - 4, by omega⟩
  rw [callF_succ _ _ _ _ _ d_Build_and rfl]
  refine ⟨l.filter fun x => decide (x ∈ m), ?_, hl.filter _, fun z => by simp⟩
  have lc := lc_spec (it := i_tup (e_1 (o_fld "own_kinds") (e_var 0))) (g := g_name 3) (t := t_b (e_2 o_in (e_var 3) (e_var 2))) (e := e_var 3) (own := [3]) (σ := [some (.ref a), some y, some (.tup (txts m)), none]) (h := h) (src := ⟨txts l, []⟩)
    (fun x => match x with | .str w => decide (w ∈ m) | _ => false) (fun x => x)
    (by simp [i_tup, e_1, e_var, fld_inst ha]) (fun _ => rfl) (by have := hl.few; simp only [txts, List.length_map, LIM]; omega) (fun x hx acc => by
      obtain ⟨w, hw, rfl⟩ := List.mem_map.mp hx
      refine ⟨_, rfl, ?_, fun _ => ?_⟩
      · simp [wipe, t_b, e_2, e_var, o_in, isIn_tup, liftO_some, okB, asB]
      · simp [wipe, e_var, gc_str])
  have fs' : List.map (fun x => x) (List.filter (fun x => match x with | .str w => decide (w ∈ m) | _ => false) (Src.mk (txts l) []).items) = txts (l.filter fun x => decide (x ∈ m)) := by
    rw [List.map_id', txts, List.filter_map]
    rfl
  rw [fs'] at lc
  have nw := fun h => new_spec (sh := sh) (n := j) (h := h) (by omega) (hl.filter fun x => decide (x ∈ m))
  have g1 : gc h (.ok (.tup (txts m)) h) = .ok (.tup (txts m)) h := gc_self (pures_strs m)
  rw [run_rt rfl (v := .ref (h.length + 1)) (h' := h ++ [.lst (txts (l.filter fun x => decide (x ∈ m))), inst (l.filter fun x => decide (x ∈ m))]) ?_]
  · exact gc_inst (by rw [List.getElem?_append_right (by omega)]; rw [show h.length + 1 - h.length = 1 by omega]; rfl) (by omega)
  · show b_Build_and (kap (prog sh) j) [some (.ref a), some y, none, none] h = _
    unfold b_Build_and
    have e2 : b_tuple [.ref h.length] (h ++ [.lst (txts (l.filter fun x => decide (x ∈ m)))]) = .ok (.tup (txts (l.filter fun x => decide (x ∈ m)))) (h ++ [.lst (txts (l.filter fun x => decide (x ∈ m)))]) := by
      simp only [b_tuple, items, get_new, Option.map_some, liftO_some]
    have k1 : callF (prog sh) (j + 3) 5 [y] h = .ok (.tup (txts m)) h := kinds_of_spec (n := j + 3) (by omega) ky
    have s1 : s_asg (e_call ((kap (prog sh) j).fn 5) (a_cons (e_var 1) (a_nil))) (g_name 2) [some (.ref a), some y, none, none] h = .nx [some (.ref a), some y, some (.tup (txts m)), none] h := by
      simp only [s_asg, e_call, a_cons, a_nil, e_var, List.getElem?_cons_zero, List.getElem?_cons_succ, Res.bind_ok, k1, g1, g_name, Res.to_ok, onlyNx_nx, List.set_cons_succ, List.set_cons_zero]
    have s2 : s_if (t_b (e_2 o_is (e_var 2) (e_c .non))) (s_bad) (s_nil) [some (.ref a), some y, some (.tup (txts m)), none] h = .nx [some (.ref a), some y, some (.tup (txts m)), none] h := by
      simp [s_if, t_b, e_2, e_var, e_c, o_is, okB, asB, liftO_some, gcB_self, s_nil]
    simp only [s_cons, s1, s2, Flow.then, s_ret, e_call, a_cons, a_nil]
    rw [lc]
    simp only [Res.bind_ok, e2, nw, Res.to_ok]
    simp
theorem sub_spec (hn : 14 ≤ n) (ha : h[a]? = some (inst l)) (ky : IsK h y m) (hl : Kinds l) (hm : Kinds m) :
    ∃ out, callF (prog sh) n 18 [.ref a, y] h = .ok (.ref h.length) (h ++ [inst out]) ∧ Kinds out ∧ ∀ z, z ∈ out ↔ z ∈ l ∧ ¬ z ∈ m := by
  obtain ⟨j, rfl⟩ : ∃ j, n = j + 4 := ⟨n - 4, by omega⟩
  rw [callF_succ _ _ _ _ _ d_Build_sub rfl]
  refine ⟨minus l m, ?_, hl.minus m, fun z => mem_minus⟩
  have wo := fun h => minus_spec (sh := sh) (n := j + 3) (h := h) (l := l) (m := m) (by omega) hl.few
  have nw := fun h => new_spec (sh := sh) (n := j) (h := h) (by omega) (hl.minus m)
  have g1 : gc h (.ok (.tup (txts m)) h) = .ok (.tup (txts m)) h := gc_self (pures_strs m)
  have g2 : ∀ out, gc h (.ok (.ref h.length) (h ++ [inst out])) = .ok (.ref h.length) (h ++ [inst out]) := fun out => gc_inst get_new (Nat.le_refl _)
  simp [runDef, d_Build_sub, b_Build_sub, s_cons, s_asg, s_if, s_nil, s_ret, e_call, a_cons, a_nil, e_var, e_1, e_2, e_c, kinds_of_spec (sh := sh) (n := j + 3) (by omega) ky, g1, g_name, Flow.then, t_b, o_is, okB, asB, liftO_some, gcB_self, fld_inst ha, wo, nw, g2]
theorem rsub_spec (hn : 14 ≤ n) (ha : h[a]? = some (inst l)) (ky : IsK h y m) (hl : Kinds l) (hm : Kinds m) :
    ∃ out, callF (prog sh) n 19 [.ref a, y] h = .ok (.ref h.length) (h ++ [inst out]) ∧ Kinds out ∧ ∀ z, z ∈ out ↔ z ∈ m ∧ ¬ z ∈ l := by
  obtain ⟨j, rfl⟩ : ∃ j, n = j + 4 := ⟨n - 4, by omega⟩
  rw [callF_succ _ _ _ _ _ d_Build_rsub rfl]
  refine ⟨minus m l, ?_, hm.minus l, fun z => mem_minus⟩
  have wo := fun h => minus_spec (sh := sh) (n := j + 3) (h := h) (l := m) (m := l) (by omega) hm.few
  have nw := fun h => new_spec (sh := sh) (n := j) (h := h) (by omega) (hm.minus l)
  have g1 : gc h (.ok (.tup (txts m)) h) = .ok (.tup (txts m)) h := gc_self (pures_strs m)
  have g2 : ∀ out, gc h (.ok (.ref h.length) (h ++ [inst out])) = .ok (.ref h.length) (h ++ [inst out]) := fun out => gc_inst get_new (Nat.le_refl _)
  simp [runDef, d_Build_rsub, b_Build_rsub, s_cons, s_asg, s_if, s_nil, s_ret, e_call, a_cons, a_nil, e_var, e_1, e_2, e_c, kinds_of_spec (sh := sh) (n := j + 3) (by omega) ky, g1, g_name, Flow.then, t_b, o_is, okB, asB, liftO_some, gcB_self, fld_inst ha, wo, nw, g2]
theorem xor_spec (hn : 14 ≤ n) (ha : h[a]? = some (inst l)) (ky : IsK h y m) (hl : Kinds l) (hm : Kinds m) (few : l.length + m.length < 1000) :
    ∃ out, callF (prog sh) n 20 [.ref a, y] h = .ok (.ref h.length) (h ++ [inst out]) ∧ Kinds out ∧ ∀ z, z ∈ out ↔ (z ∈ l ∧ ¬ z ∈ m) ∨ (z ∈ m ∧ ¬ z ∈ l) := by
  obtain ⟨j, rfl⟩ : ∃ j, n = j + 4 := ⟨n - 4, by omega⟩
  rw [callF_succ _ _ _ _ _ d_Build_xor rfl]
  have wo := fun h => minus_spec (sh := sh) (n := j + 3) (h := h) (l := m) (m := l) (by omega) hm.few
  have wo2 := fun h => minus_spec (sh := sh) (n := j + 3) (h := h) (l := l) (m := m) (by omega) hl.few
  obtain ⟨out, bw, ko, om⟩ := build_with_spec (sh := sh) (n := j + 3) (h := h) (by omega) (hl.minus m) (hm.minus l) (fun x hx hy => (mem_minus.mp hy).2 (mem_minus.mp hx).1) (by
    have := minus_len m l
    have := minus_len l m
    omega)
  refine ⟨out, ?_, ko, fun z => by rw [om z, mem_minus, mem_minus]⟩
  have g1 : gc h (.ok (.tup (txts m)) h) = .ok (.tup (txts m)) h := gc_self (pures_strs m)
  have g2 : gc h (.ok (.ref h.length) (h ++ [inst out])) = .ok (.ref h.length) (h ++ [inst out]) := gc_inst get_new (Nat.le_refl _)
  simp [runDef, d_Build_xor, b_Build_xor, s_cons, s_asg, s_if, s_nil, s_ret, e_call, a_cons, a_nil, e_var, e_1, e_2, e_c, kinds_of_spec (sh := sh) (n := j + 3) (by omega) ky, g1, g_name, Flow.then, t_b, o_is, okB, asB, liftO_some, gcB_self, fld_inst ha, wo, wo2, bw, g2]
end
end K01
end

section
set_option linter.all false
set_option autoImplicit false
set_option maxRecDepth 100000
set_option maxHeartbeats 1000000
namespace K01
open IR
variable {sh : PD → Txt}
/-- what an operator asks -/
def opP (w : Txt) (a b : Prop) : Prop := (w = [124] ∧ (a ∨ b)) ∨ (w = [38] ∧ a ∧ b) ∨ (w = [45] ∧ a ∧ ¬ b) ∨ (w = [94] ∧ ((a ∧ ¬ b) ∨ (b ∧ ¬ a)))
def OpT (w : Txt) : Prop := w = [124] ∨ w = [38] ∨ w = [45] ∨ w = [94]
def Out (h : Heap) (r : Res D) (P : Txt → Prop) : Prop := ∃ out, r = .ok (.ref h.length) (h ++ [inst out]) ∧ Kinds out ∧ ∀ z, z ∈ out ↔ P z
def DueOut (h : Heap) (r : Res D) (P : Txt → Prop) : Prop := ∃ out, r = .ok (.ref h.length) (h ++ [.lst (txts out)]) ∧ Asc out ∧ ∀ z, z ∈ out ↔ P z
theorem Out.iff {h : Heap} {r : Res D} {P Q : Txt → Prop} (o : Out h r P) (e : ∀ z, P z ↔ Q z) : Out h r Q := by
  obtain ⟨out, a, b, c⟩ := o
  exact ⟨out, a, b, fun z => (c z).trans (e z)⟩
theorem cls_inst {h : Heap} {a : Nat} {l : List Txt} (e : h[a]? = some (inst l)) : clsD h (.ref a) = some 0 := by simp only [clsD, e, inst]
theorem own_ref {κ : Kap} {f fr a : Nat} {h : Heap} {y : D} {l m : List Txt} (ha : h[a]? = some (inst l)) (ky : IsK h y m) : o_own κ 0 f fr (.ref a) y h = κ.fn f [.ref a, y] h := by
  have ok : okR h 0 y = true := by
    rcases ky with ⟨b, rfl, e⟩ | ⟨w, rfl, _⟩
    · simp [okR, cls_inst e]
    · rfl
  simp only [o_own, cls_inst ha, if_true, ok]
theorem own_str {κ : Kap} {f fr b : Nat} {h : Heap} {w : Txt} {m : List Txt} (hb : h[b]? = some (inst m)) : o_own κ 0 f fr (.str w) (.ref b) h = κ.fn fr [.ref b, .str w] h := by
  have : ¬ clsD h (.str w) = some 0 := by simp [clsD]
  simp only [o_own, this, if_false, cls_inst hb, if_true]
section
variable {n : Nat} {h : Heap} {x y : D} {l m : List Txt}
theorem gcI {out : List Txt} : gc h (.ok (.ref h.length) (h ++ [inst out])) = .ok (.ref h.length) (h ++ [inst out]) := gc_inst get_new (Nat.le_refl _)
theorem orR (hn : 20 ≤ n) {a : Nat} (ha : h[a]? = some (inst l)) (ky : IsK h y m) (hl : Kinds l) (hm : Kinds m) (few : l.length + m.length < 1000) : Out h (callF (prog sh) n 15 [.ref a, y] h) fun z => z ∈ m ∨ z ∈ l := by
  obtain ⟨j, rfl⟩ : ∃ j, n = j + 4 := ⟨n - 4, by omega⟩
  rw [callF_succ _ _ _ _ _ d_Build_ror rfl]
  obtain ⟨out, e, k, i⟩ := or_spec (sh := sh) (n := j + 3) (by omega) ha ky hl hm few
  refine ⟨out, ?_, k, fun z => (i z).trans or_comm⟩
  simp [runDef, d_Build_ror, b_Build_ror, s_ret, e_2, e_var, own_ref ha ky, e, gcI]
theorem andR (hn : 20 ≤ n) {a : Nat} (ha : h[a]? = some (inst l)) (ky : IsK h y m) (hl : Kinds l) (hm : Kinds m) : Out h (callF (prog sh) n 17 [.ref a, y] h) fun z => z ∈ m ∧ z ∈ l := by
  obtain ⟨j, rfl⟩ : ∃ j, n = j + 4 := ⟨n - 4, by omega⟩
  rw [callF_succ _ _ _ _ _ d_Build_rand rfl]
  obtain ⟨out, e, k, i⟩ := and_spec (sh := sh) (n := j + 3) (by omega) ha ky hl hm
  refine ⟨out, ?_, k, fun z => (i z).trans and_comm⟩
  simp [runDef, d_Build_rand, b_Build_rand, s_ret, e_2, e_var, own_ref ha ky, e, gcI]
theorem xorR (hn : 20 ≤ n) {a : Nat} (ha : h[a]? = some (inst l)) (ky : IsK h y m) (hl : Kinds l) (hm : Kinds m) (few : l.length + m.length < 1000) : Out h (callF (prog sh) n 21 [.ref a, y] h) fun z => (z ∈ m ∧ ¬ z ∈ l) ∨ (z ∈ l ∧ ¬ z ∈ m) := by
  obtain ⟨j, rfl⟩ : ∃ j, n = j + 4 := ⟨n - 4, by omega⟩
  rw [callF_succ _ _ _ _ _ d_Build_rxor rfl]
  obtain ⟨out, e, k, i⟩ := xor_spec (sh := sh) (n := j + 3) (by omega) ha ky hl hm few
  refine ⟨out, ?_, k, fun z => (i z).trans or_comm⟩
  simp [runDef, d_Build_rxor, b_Build_rxor, s_ret, e_2, e_var, own_ref ha ky, e, gcI]
/-- the operator at its two things -/
def opR (κ : Kap) (w : Txt) (x y : D) (h : Heap) : Res D := if w = [124] then o_own κ 0 14 15 x y h else if w = [38] then o_own κ 0 16 17 x y h else if w = [45] then o_own κ 0 18 19 x y h else o_own κ 0 20 21 x y h
theorem op_spec {w : Txt} (hn : 21 ≤ n) (hw : OpT w) (kx : IsK h x l) (ky : IsK h y m) (one : (∃ a, x = .ref a) ∨ ∃ a, y = .ref a) (hl : Kinds l) (hm : Kinds m) (few : l.length + m.length < 1000) :
    Out h (opR (kap (prog sh) n) w x y h) fun z => opP w (z ∈ l) (z ∈ m) := by
  rcases kx with ⟨a, rfl, ha⟩ | ⟨v, rfl, hv, rfl⟩
  · rcases hw with rfl | rfl | rfl | rfl
    · refine Out.iff (P := fun z => z ∈ l ∨ z ∈ m) ?_ fun z => by simp [opP]
      have q := or_spec (sh := sh) (n := n + 3) (by omega) ha ky hl hm few
      unfold opR
      simp (config := {decide := true}) only [if_true, if_false, own_ref ha ky]
      exact q
    · refine Out.iff (P := fun z => z ∈ l ∧ z ∈ m) ?_ fun z => by simp [opP]
      have q := and_spec (sh := sh) (n := n + 3) (by omega) ha ky hl hm
      unfold opR
      simp (config := {decide := true}) only [if_true, if_false, own_ref ha ky]
      exact q
    · refine Out.iff (P := fun z => z ∈ l ∧ ¬ z ∈ m) ?_ fun z => by simp [opP]
      have q := sub_spec (sh := sh) (n := n + 3) (by omega) ha ky hl hm
      unfold opR
      simp (config := {decide := true}) only [if_true, if_false, own_ref ha ky]
      exact q
    · refine Out.iff (P := fun z => (z ∈ l ∧ ¬ z ∈ m) ∨ (z ∈ m ∧ ¬ z ∈ l)) ?_ fun z => by simp [opP]
      have q := xor_spec (sh := sh) (n := n + 3) (by omega) ha ky hl hm few
      unfold opR
      simp (config := {decide := true}) only [if_true, if_false, own_ref ha ky]
      exact q
  · rcases ky with ⟨b, rfl, hb⟩ | ⟨u, rfl, hu, rfl⟩
    · have kv : IsK h (.str v) [v] := .inr ⟨v, rfl, hv, rfl⟩
      have few' : m.length + [v].length < 1000 := by simpa [Nat.add_comm] using few
      rcases hw with rfl | rfl | rfl | rfl
      · refine Out.iff (P := fun z => z ∈ [v] ∨ z ∈ m) ?_ fun z => by simp [opP]
        have q := orR (sh := sh) (n := n + 3) (by omega) hb kv hm hl few'
        unfold opR
        simp (config := {decide := true}) only [if_true, if_false, own_str hb]
        exact q
      · refine Out.iff (P := fun z => z ∈ [v] ∧ z ∈ m) ?_ fun z => by simp [opP]
        have q := andR (sh := sh) (n := n + 3) (by omega) hb kv hm hl
        unfold opR
        simp (config := {decide := true}) only [if_true, if_false, own_str hb]
        exact q
      · refine Out.iff (P := fun z => z ∈ [v] ∧ ¬ z ∈ m) ?_ fun z => by simp [opP]
        have q := rsub_spec (sh := sh) (n := n + 3) (by omega) hb kv hm hl
        unfold opR
        simp (config := {decide := true}) only [if_true, if_false, own_str hb]
        exact q
      · refine Out.iff (P := fun z => (z ∈ [v] ∧ ¬ z ∈ m) ∨ (z ∈ m ∧ ¬ z ∈ [v])) ?_ fun z => by simp [opP]
        have q := xorR (sh := sh) (n := n + 3) (by omega) hb kv hm hl few'
        unfold opR
        simp (config := {decide := true}) only [if_true, if_false, own_str hb]
        exact q
    · rcases one with ⟨a, e⟩ | ⟨a, e⟩ <;> cases e
theorem eq_str (s t : Txt) : o_eq (.str s) (.str t) h = .ok (.bl (decide (s = t))) h := by
  by_cases e : s = t
  · subst e; simp [o_eq, eqD, rd, PD.eqv, liftO_some, okB]
  · simp [o_eq, eqD, rd, PD.eqv, liftO_some, okB, e]
theorem by_spec {w : Txt} (hn : 26 ≤ n) (hw : OpT w) (kx : IsK h x l) (ky : IsK h y m) (one : (∃ a, x = .ref a) ∨ ∃ a, y = .ref a) (hl : Kinds l) (hm : Kinds m) (few : l.length + m.length < 1000) :
    Out h (callF (prog sh) n 32 [.str w, x, y] h) fun z => opP w (z ∈ l) (z ∈ m) := by
  obtain ⟨j, rfl⟩ : ∃ j, n = j + 4 := ⟨n - 4, by omega⟩
  rw [callF_succ _ _ _ _ _ d_law_by rfl]
  obtain ⟨out, e, k, i⟩ := op_spec (sh := sh) (n := j) (by omega) hw kx ky one hl hm few
  refine ⟨out, ?_, k, i⟩
  rcases hw with rfl | rfl | rfl | rfl <;> (simp [opR] at e; simp [runDef, d_law_by, b_law_by, s_ret, s_cons, s_if, s_nil, e_if, t_b, e_2, e_var, e_c, eq_str, asB, liftO_some, gcB_self, Flow.then, e, gcI])
theorem placed_spec {w : Txt} (hn : 26 ≤ n) (hw : OpT w) {a : Nat} (ha : h[a]? = some (inst l)) (ky : IsK h y m) (hl : Kinds l) (hm : Kinds m) (few : l.length + m.length < 1000) :
    Out h (callF (prog sh) n 33 [.str w, .ref a, y] h) fun z => opP w (z ∈ l) (z ∈ m) := by
  obtain ⟨j, rfl⟩ : ∃ j, n = j + 4 := ⟨n - 4, by omega⟩
  rw [callF_succ _ _ _ _ _ d_law_placed rfl]
  obtain ⟨out, e, k, i⟩ := op_spec (sh := sh) (n := j) (x := .ref a) (by omega) hw (.inl ⟨a, rfl, ha⟩) ky (.inl ⟨a, rfl⟩) hl hm few
  refine ⟨out, ?_, k, i⟩
  rcases hw with rfl | rfl | rfl | rfl <;> (simp [opR] at e; simp [runDef, d_law_placed, b_law_placed, s_ret, s_cons, s_if, s_nil, s_aug, o_ownI, cls_inst ha, t_b, e_2, e_var, e_c, eq_str, asB, liftO_some, gcB_self, Flow.then, e, gcI])
end
theorem gcL {h : Heap} {l : List Txt} : gc h (.ok (.ref h.length) (h ++ [.lst (txts l)])) = .ok (.ref h.length) (h ++ [.lst (txts l)]) := gc_new get_new (Nat.le_refl _) (pures_strs l)
theorem gcL2 {h g : Heap} {l : List Txt} {r : Nat} (e : (h ++ g)[r]? = some (.lst (txts l))) (hl : h.length ≤ r) : gc h (.ok (.ref r) (h ++ g)) = .ok (.ref h.length) (h ++ [.lst (txts l)]) := gc_new e hl (pures_strs l)
/-- those of a list that are, that are not in another one -/
theorem lc_in {h : Heap} {a b i j k : Nat} {l m : List Txt} {σ : Env} (hσi : (wipe σ [k])[i]? = some (some (.ref a))) (hi : σ[i]? = some (some (.ref a))) (hk : k < σ.length) (hik : i ≠ k) (hjk : j ≠ k) (hj : σ[j]? = some (some (.ref b))) (ha : h[a]? = some (.lst (txts l))) (hb : h[b]? = some (.lst (txts m))) (hl : l.length < 100000) :
    e_lc (i_list (e_var i)) (g_name k) (t_b (e_2 o_in (e_var k) (e_var j))) (e_var k) [k] σ h = .ok (.ref h.length) (h ++ [.lst (txts (l.filter fun z => decide (z ∈ m)))]) := by
  have lc := lc_spec (it := i_list (e_var i)) (g := g_name k) (t := t_b (e_2 o_in (e_var k) (e_var j))) (e := e_var k) (own := [k]) (σ := σ) (h := h) (src := ⟨txts l, [(a, .lst (txts l))]⟩)
    (fun x => match x with | .str w => decide (w ∈ m) | _ => false) (fun x => x)
    (by simp [i_list, e_var, hi, ha]) (fun acc => by simp [Src.ok, get_old ha]) (by simp only [txts, List.length_map, LIM]; omega) (fun x hx acc => by
      obtain ⟨w, hw, rfl⟩ := List.mem_map.mp hx
      refine ⟨_, rfl, ?_, fun _ => ?_⟩
      · simp [wipe, t_b, e_2, e_var, o_in, hk, List.getElem?_set_ne (Ne.symm hjk), hj, isIn_ref (get_old hb), liftO_some, okB, asB]
      · simp [wipe, e_var, gc_str, hk])
  have fs' : List.map (fun x => x) (List.filter (fun x => match x with | .str w => decide (w ∈ m) | _ => false) (Src.mk (txts l) [(a, .lst (txts l))]).items) = txts (l.filter fun x => decide (x ∈ m)) := by
    rw [List.map_id', txts, List.filter_map]
    rfl
  rw [fs'] at lc
  exact lc
theorem lc_ni {h : Heap} {a b i j k : Nat} {l m : List Txt} {σ : Env} (hi : σ[i]? = some (some (.ref a))) (hk : k < σ.length) (hjk : j ≠ k) (hj : σ[j]? = some (some (.ref b))) (ha : h[a]? = some (.lst (txts l))) (hb : h[b]? = some (.lst (txts m))) (hl : l.length < 100000) :
    e_lc (i_list (e_var i)) (g_name k) (t_b (e_2 o_notin (e_var k) (e_var j))) (e_var k) [k] σ h = .ok (.ref h.length) (h ++ [.lst (txts (minus l m))]) := by
  have lc := lc_spec (it := i_list (e_var i)) (g := g_name k) (t := t_b (e_2 o_notin (e_var k) (e_var j))) (e := e_var k) (own := [k]) (σ := σ) (h := h) (src := ⟨txts l, [(a, .lst (txts l))]⟩)
    (fun x => match x with | .str w => decide (w ∉ m) | _ => false) (fun x => x)
    (by simp [i_list, e_var, hi, ha]) (fun acc => by simp [Src.ok, get_old ha]) (by simp only [txts, List.length_map, LIM]; omega) (fun x hx acc => by
      obtain ⟨w, hw, rfl⟩ := List.mem_map.mp hx
      refine ⟨_, rfl, ?_, fun _ => ?_⟩
      · simp [wipe, t_b, e_2, e_var, o_notin, hk, List.getElem?_set_ne (Ne.symm hjk), hj, isIn_ref (get_old hb), liftO_some, okB, asB]
      · simp [wipe, e_var, gc_str, hk])
  have fs' : List.map (fun x => x) (List.filter (fun x => match x with | .str w => decide (w ∉ m) | _ => false) (Src.mk (txts l) [(a, .lst (txts l))]).items) = txts (minus l m) := by
    rw [List.map_id', txts, List.filter_map]
    rfl
  rw [fs'] at lc
  exact lc
theorem due_spec {n a b : Nat} {h : Heap} {l m : List Txt} {w : Txt} (hn : 10 ≤ n) (hw : OpT w) (ha : h[a]? = some (.lst (txts l))) (hb : h[b]? = some (.lst (txts m))) (al : Asc l) (am : Asc m) (few : l.length + m.length < 1000) :
    DueOut h (callF (prog sh) n 31 [.str w, .ref a, .ref b] h) fun z => opP w (z ∈ l) (z ∈ m) := by
  obtain ⟨j, rfl⟩ : ∃ j, n = j + 4 := ⟨n - 4, by omega⟩
  rw [callF_succ _ _ _ _ _ d_law_due rfl]
  have lcn1 : e_lc (i_list (e_var 1)) (g_name 3) (t_b (e_2 o_notin (e_var 3) (e_var 2))) (e_var 3) [3] [some (.str w), some (.ref a), some (.ref b), none] h = .ok (.ref h.length) (h ++ [.lst (txts (minus l m))]) := lc_ni rfl (by simp) (by decide) rfl ha hb (by omega)
  rcases hw with rfl | rfl | rfl | rfl
  · obtain ⟨out, e, oa, om, _⟩ := ordered_spec (sh := sh) (n := j + 3) (r := h.length) (h := h ++ [.lst (txts (l ++ m))]) (rows := l ++ m) (by omega) get_new (by simp; omega)
    refine ⟨out, ?_, oa, fun z => by rw [om z]; simp [opP]⟩
    have ad := add_lists ha hb (by omega)
    rw [run_rt rfl (v := .ref (h.length + 1)) (h' := h ++ [.lst (txts (l ++ m)), .lst (txts out)]) ?_]
    · exact gcL2 (by rw [List.getElem?_append_right (by omega)]; rw [show h.length + 1 - h.length = 1 by omega]; rfl) (by omega)
    · simp [d_law_due, b_law_due, s_cons, s_if, t_b, e_2, e_var, e_c, eq_str, asB, liftO_some, gcB_self, s_ret, e_call, a_cons, a_nil, -List.map_append, ad, e, Flow.then]
  · have lc := lc_in (h := h) (i := 1) (j := 2) (k := 3) (σ := [some (.str [38]), some (.ref a), some (.ref b), none]) rfl rfl (by simp) (by decide) (by decide) rfl ha hb (by omega)
    refine ⟨l.filter fun z => decide (z ∈ m), ?_, al.sublist List.filter_sublist, fun z => by simp [opP]⟩
    simp only [runDef, d_law_due, b_law_due, s_cons, s_if, t_b, e_2, e_var, e_c, List.length_cons, List.length_nil, if_true, List.map_cons, List.map_nil, Nat.reduceSub, List.replicate, List.cons_append, List.nil_append, List.getElem?_cons_zero, Res.bind_ok, eq_str, asB, liftO_some, gcB_self, Res.to_ok, show ([38] : Txt) ≠ [124] from by decide, decide_false, decide_true, Bool.false_eq_true, if_false, s_nil, Flow.then, s_ret]
    have lc2 := lc
    rw [lc2]
    exact gcL
  · refine ⟨minus l m, ?_, al.sublist List.filter_sublist, fun z => by simp [opP, mem_minus]⟩
    simp only [runDef, d_law_due, b_law_due, s_cons, s_if, t_b, e_2, e_var, e_c, List.length_cons, List.length_nil, if_true, List.map_cons, List.map_nil, Nat.reduceSub, List.replicate, List.cons_append, List.nil_append, List.getElem?_cons_zero, Res.bind_ok, eq_str, asB, liftO_some, gcB_self, Res.to_ok, show ([45] : Txt) ≠ [124] from by decide, show ([45] : Txt) ≠ [38] from by decide, decide_false, decide_true, Bool.false_eq_true, if_false, s_nil, Flow.then, s_ret]
    have lc2 := lcn1
    rw [lc2]
    exact gcL
  · have lc2 : e_lc (i_list (e_var 2)) (g_name 3) (t_b (e_2 o_notin (e_var 3) (e_var 1))) (e_var 3) [3] [some (.str [94]), some (.ref a), some (.ref b), none] (h ++ [.lst (txts (minus l m))]) = .ok (.ref (h ++ [LO.lst (txts (minus l m))]).length) (h ++ [.lst (txts (minus l m))] ++ [.lst (txts (minus m l))]) := lc_ni rfl (by simp) (by decide) rfl (get_old hb) (get_old ha) (by omega)
    have m1 := minus_len l m
    have m2 := minus_len m l
    have ad := add_lists (H := h ++ [LO.lst (txts (minus l m))] ++ [LO.lst (txts (minus m l))]) (get_old (get_new (h := h) (o := LO.lst (txts (minus l m))))) get_new (by omega)
    obtain ⟨out, e, oa, om, _⟩ := ordered_spec (sh := sh) (n := j + 3) (r := (h ++ [LO.lst (txts (minus l m))] ++ [LO.lst (txts (minus m l))]).length) (h := h ++ [LO.lst (txts (minus l m))] ++ [LO.lst (txts (minus m l))] ++ [LO.lst (txts (minus l m ++ minus m l))]) (rows := minus l m ++ minus m l) (by omega) get_new (by simp; omega)
    refine ⟨out, ?_, oa, fun z => by rw [om z, List.mem_append, mem_minus, mem_minus]; simp [opP]⟩
    rw [run_rt rfl (v := .ref (h.length + 3)) (h' := h ++ [.lst (txts (minus l m)), .lst (txts (minus m l)), .lst (txts (minus l m ++ minus m l)), .lst (txts out)]) ?_]
    · exact gcL2 (by rw [List.getElem?_append_right (by omega)]; rw [show h.length + 3 - h.length = 3 by omega]; rfl) (by omega)
    · show b_law_due (kap (prog sh) j) [some (.str [94]), some (.ref a), some (.ref b), none] h = _
      unfold b_law_due
      have q : ∀ t g, t ≠ ([94] : Txt) → s_if (t_b (e_2 o_eq (e_var 0) (e_c (.str t)))) g s_nil [some (.str [94]), some (.ref a), some (.ref b), none] h = .nx [some (.str [94]), some (.ref a), some (.ref b), none] h := fun t g ht => by
        simp [s_if, t_b, e_2, e_var, e_c, eq_str, Ne.symm ht, asB, liftO_some, gcB_self, s_nil]
      rw [s_cons, q _ _ (by decide)]
      simp only [Flow.then]
      rw [s_cons, q _ _ (by decide)]
      simp only [Flow.then]
      rw [s_cons, q _ _ (by decide)]
      simp only [Flow.then, s_ret, e_call, a_cons, a_nil]
      rw [show (e_2 o_add (e_lc (i_list (e_var 1)) (g_name 3) (t_b (e_2 o_notin (e_var 3) (e_var 2))) (e_var 3) [3]) (e_lc (i_list (e_var 2)) (g_name 3) (t_b (e_2 o_notin (e_var 3) (e_var 1))) (e_var 3) [3])) [some (.str [94]), some (.ref a), some (.ref b), none] h = _ from by
        rw [e_2, lcn1, Res.bind_ok, lc2, Res.bind_ok, ad]]
      simp only [Res.bind_ok, e, Res.to_ok]
      simp
end K01
end

section
set_option linter.all false
set_option autoImplicit false
set_option maxRecDepth 100000
set_option maxHeartbeats 1000000
namespace K01
open IR
variable {sh : PD → Txt}
theorem rd_strs (h : Heap) (k : Nat) (l : List Txt) : mapO (rd h (k + 1)) (txts l) = some (l.map PD.str) := by
  induction l with
  | nil => rfl
  | cons a r ih => simp only [txts, List.map_cons, mapO] at ih ⊢; rw [ih]; rfl
theorem eqvs_strs : ∀ l m : List Txt, PD.eqvs (l.map PD.str) (m.map PD.str) = decide (l = m)
  | [], [] => by simp [PD.eqvs]
  | [], _ :: _ => by simp [PD.eqvs]
  | _ :: _, [] => by simp [PD.eqvs]
  | a :: l, b :: m => by
    simp only [List.map_cons, PD.eqvs, PD.eqv, eqvs_strs l m]
    by_cases e : a = b
    · subst e; simp
    · simp [e]
theorem eqD_tups {h : Heap} {l m : List Txt} : eqD h (.tup (txts l)) (.tup (txts m)) = some (decide (l = m)) := by
  have r : ∀ l, rd h DEEP (.tup (txts l)) = some (.tuple (l.map PD.str)) := fun l => by
    show (mapO (rd h 59) (txts l)).map PD.tuple = _
    rw [rd_strs h 58]; rfl
  simp only [eqD, r, PD.eqv, eqvs_strs]
theorem rd_ref {h : Heap} {c : Nat} {l : List Txt} (e : h[c]? = some (.lst (txts l))) : rd h DEEP (.ref c) = some (.list (l.map PD.str)) := by
  show (match h[c]? with | some (.lst ds) => (mapO (rd h 59) ds).map PD.list | _ => none) = _
  rw [e]
  show (mapO (rd h 59) (txts l)).map PD.list = _
  rw [rd_strs h 58]; rfl
theorem eqD_refs {h : Heap} {c d : Nat} {l m : List Txt} (ec : h[c]? = some (.lst (txts l))) (ed : h[d]? = some (.lst (txts m))) : eqD h (.ref c) (.ref d) = some (decide (l = m)) := by
  simp only [eqD, rd_ref ec, rd_ref ed, PD.eqv, eqvs_strs]
def Wi (l m : List Txt) : Bool := l.all fun z => decide (z ∈ m)
theorem minus_nil {l m : List Txt} : decide (minus l m = []) = Wi l m := by
  rw [Bool.eq_iff_iff]
  simp [minus, Wi]
section
variable {n a b : Nat} {h : Heap} {l m : List Txt}
theorem isa_inst (e : h[a]? = some (inst l)) : isTy sub h (.ref a) (.own 0) = some true := by simp only [isTy, e, inst, Ty.is]; rfl
theorem le_spec (hn : 8 ≤ n) (ha : h[a]? = some (inst l)) (hb : h[b]? = some (inst m)) (few : l.length < 1000) : callF (prog sh) n 22 [.ref a, .ref b] h = .ok (.bl (Wi l m)) h := by
  obtain ⟨j, rfl⟩ : ∃ j, n = j + 4 := ⟨n - 4, by omega⟩
  rw [callF_succ _ _ _ _ _ d_Build_le rfl]
  have mi := minus_spec (sh := sh) (n := j + 3) (h := h) (l := l) (m := m) (by omega) few
  have eq0 : eqD h (.tup (txts (minus l m))) (.tup []) = some (Wi l m) := by
    have := eqD_tups (h := h) (l := minus l m) (m := [])
    rw [minus_nil] at this
    exact this
  simp [runDef, d_Build_le, b_Build_le, s_cons, s_if, s_nil, s_ret, t_not, t_e, e_1, e_2, e_var, o_isa, isa_inst hb, liftO_some, okB, truth, gcB_self, Flow.then, e_call, a_cons, a_nil, fld_inst ha, fld_inst hb, mi, e_tup, LIM, o_eq, eq0, gc_bl]
theorem o_cmp_inst {κ : Kap} {f : Nat} (ha : h[a]? = some (inst l)) (hb : h[b]? = some (inst m)) : o_cmp κ 0 f (.ref a) (.ref b) h = κ.fn f [.ref a, .ref b] h := by
  simp only [o_cmp, cls_inst ha, cls_inst hb, and_self, if_true]
theorem lt_spec (hn : 12 ≤ n) (ha : h[a]? = some (inst l)) (hb : h[b]? = some (inst m)) (few : l.length < 1000) : callF (prog sh) n 23 [.ref a, .ref b] h = .ok (.bl (Wi l m && !decide (l = m))) h := by
  obtain ⟨j, rfl⟩ : ∃ j, n = j + 4 := ⟨n - 4, by omega⟩
  rw [callF_succ _ _ _ _ _ d_Build_lt rfl]
  have le := le_spec (sh := sh) (n := j + 3) (by omega) ha hb few
  cases w : Wi l m <;> simp [runDef, d_Build_lt, b_Build_lt, s_cons, s_if, s_nil, s_ret, t_not, t_e, e_1, e_2, e_var, o_isa, isa_inst hb, liftO_some, okB, truth, gcB_self, Flow.then, e_and, o_cmp_inst ha hb, le, w, asB, fld_inst ha, fld_inst hb, o_ne, eqD_tups, gc_bl]
theorem ge_spec (hn : 12 ≤ n) (ha : h[a]? = some (inst l)) (hb : h[b]? = some (inst m)) (few : m.length < 1000) : callF (prog sh) n 24 [.ref a, .ref b] h = .ok (.bl (Wi m l)) h := by
  obtain ⟨j, rfl⟩ : ∃ j, n = j + 4 := ⟨n - 4, by omega⟩
  rw [callF_succ _ _ _ _ _ d_Build_ge rfl]
  have le := le_spec (sh := sh) (n := j + 3) (by omega) hb ha few
  simp [runDef, d_Build_ge, b_Build_ge, s_cons, s_if, s_nil, s_ret, t_not, t_e, e_1, e_2, e_var, o_isa, isa_inst hb, liftO_some, okB, truth, gcB_self, Flow.then, o_cmp_inst hb ha, le, gc_bl]
theorem gt_spec (hn : 16 ≤ n) (ha : h[a]? = some (inst l)) (hb : h[b]? = some (inst m)) (few : m.length < 1000) : callF (prog sh) n 25 [.ref a, .ref b] h = .ok (.bl (Wi m l && !decide (l = m))) h := by
  obtain ⟨j, rfl⟩ : ∃ j, n = j + 4 := ⟨n - 4, by omega⟩
  rw [callF_succ _ _ _ _ _ d_Build_gt rfl]
  have lt := lt_spec (sh := sh) (n := j + 3) (by omega) hb ha few
  rw [show (decide (m = l)) = decide (l = m) from by rw [decide_eq_decide]; exact eq_comm] at lt
  simp [runDef, d_Build_gt, b_Build_gt, s_cons, s_if, s_nil, s_ret, t_not, t_e, e_1, e_2, e_var, o_isa, isa_inst hb, liftO_some, okB, truth, gcB_self, Flow.then, o_cmp_inst hb ha, lt, gc_bl]
theorem eq_spec (hn : 8 ≤ n) (ha : h[a]? = some (inst l)) (hb : h[b]? = some (inst m)) : callF (prog sh) n 10 [.ref a, .ref b] h = .ok (.bl (decide (l = m))) h := by
  obtain ⟨j, rfl⟩ : ∃ j, n = j + 4 := ⟨n - 4, by omega⟩
  rw [callF_succ _ _ _ _ _ d_Build_eq rfl]
  simp [runDef, d_Build_eq, b_Build_eq, s_ret, e_1, e_2, e_var, o_isa, isa_inst hb, liftO_some, okB, e_and, asB, fld_inst ha, fld_inst hb, o_eq, eqD_tups, gc_bl]
end
/-- all([kind in others for kind in kinds]) -/
theorem lc_wi {h : Heap} {c d i j k : Nat} {l m : List Txt} {σ : Env} (hi : σ[i]? = some (some (.ref c))) (hk : k < σ.length) (hjk : j ≠ k) (hj : σ[j]? = some (some (.ref d))) (hc : h[c]? = some (.lst (txts l))) (hd : h[d]? = some (.lst (txts m))) (hl : l.length < 100000) :
    ∃ g, e_call b_all (a_cons (e_lc (i_list (e_var i)) (g_name k) t_yes (e_2 o_in (e_var k) (e_var j)) [k]) a_nil) σ h = .ok (.bl (Wi l m)) (h ++ g) := by
  have lc := lc_all (it := i_list (e_var i)) (g := g_name k) (e := e_2 o_in (e_var k) (e_var j)) (own := [k]) (σ := σ) (h := h) (src := ⟨txts l, [(c, .lst (txts l))]⟩)
    (fun x => .bl (match x with | .str w => decide (w ∈ m) | _ => false))
    (by simp [i_list, e_var, hi, hc]) (fun acc => by simp [Src.ok, get_old hc]) (by simp only [txts, List.length_map, LIM]; omega) (fun x hx acc => by
      obtain ⟨w, hw, rfl⟩ := List.mem_map.mp hx
      refine ⟨_, rfl, ?_⟩
      simp [wipe, e_2, e_var, o_in, hk, List.getElem?_set_ne (Ne.symm hjk), hj, isIn_ref (get_old hd), liftO_some, okB, gc_bl])
  refine ⟨[.lst ((txts l).map fun x => .bl (match x with | .str w => decide (w ∈ m) | _ => false))], ?_⟩
  have al := all_new (h := h) (xs := txts l) (b := fun x => match x with | .str w => decide (w ∈ m) | _ => false)
  have ew : (txts l).all (fun x => match x with | .str w => decide (w ∈ m) | _ => false) = Wi l m := by simp [Wi, txts, List.all_map, Function.comp_def]
  rw [ew] at al
  simp only [e_call, a_cons, a_nil]
  rw [lc]
  exact al
theorem repr_bools {κ : Kap} {h : Heap} {k : Nat} {bs : List Bool} (e : h[k]? = some (.lst (bs.map .bl))) (hl : bs.length < 1000) : b_repr κ [.ref k] h = .ok (.str (κ.shown (.list (bs.map .bool)))) h := by
  have r : rd h DEEP (.ref k) = some (.list (bs.map .bool)) := by
    show (match h[k]? with | some (.lst ds) => (mapO (rd h 59) ds).map PD.list | _ => none) = _
    rw [e]
    have : mapO (rd h 59) (bs.map .bl) = some (bs.map .bool) := by
      induction bs with
      | nil => rfl
      | cons b r ih =>
        have q : ∀ bs : List Bool, mapO (rd h 59) (bs.map .bl) = some (bs.map .bool) := by
          intro bs
          induction bs with
          | nil => rfl
          | cons b r ih => simp only [List.map_cons, mapO]; rw [ih]; rfl
        exact q _
    show (mapO (rd h 59) (bs.map .bl)).map PD.list = _
    rw [this]; rfl
  have t : ∀ bs : List Bool, PD.tinys (bs.map .bool) = true := by
    intro bs
    induction bs with
    | nil => rfl
    | cons b r ih => simp [PD.tinys, PD.tiny, ih]
  have w : ∀ bs : List Bool, PD.wts (bs.map .bool) = bs.length := by
    intro bs
    induction bs with
    | nil => rfl
    | cons b r ih => simp [PD.wts, PD.wt, ih]; omega
  have f : (PD.list (bs.map .bool)).fits = true := by
    have : bs.length ≤ 1048576 := by omega
    simp [PD.fits, PD.tiny, PD.wt, t, w, this]
  simp only [b_repr, r, liftO_some, Res.bind_ok, f, if_true]
theorem compared_spec {n a b c d : Nat} {h : Heap} {l m : List Txt} (hn : 30 ≤ n) (ha : h[a]? = some (inst l)) (hb : h[b]? = some (inst m)) (hc : h[c]? = some (.lst (txts l))) (hd : h[d]? = some (.lst (txts m))) (fl : l.length < 1000) (fm : m.length < 1000) :
    callF (prog sh) n 34 [.ref a, .ref b, .ref c, .ref d] h = .ok (.bl true) h := by
  obtain ⟨j, rfl⟩ : ∃ j, n = j + 4 := ⟨n - 4, by omega⟩
  rw [callF_succ _ _ _ _ _ d_law_compared rfl]
  obtain ⟨g1, w1⟩ := lc_wi (h := h) (i := 2) (j := 3) (k := 8) (σ := [some (.ref a), some (.ref b), some (.ref c), some (.ref d), none, none, none, none, none]) rfl (by simp) (by decide) rfl hc hd (by omega)
  obtain ⟨g2, w2⟩ := lc_wi (h := h ++ g1) (i := 3) (j := 2) (k := 8) (σ := [some (.ref a), some (.ref b), some (.ref c), some (.ref d), none, none, none, none, none]) rfl (by simp) (by decide) rfl (get_old hd) (get_old hc) (by omega)
  have ha2 : ∀ g, (h ++ g)[a]? = some (inst l) := fun g => get_old ha
  have hb2 : ∀ g, (h ++ g)[b]? = some (inst m) := fun g => get_old hb
  have hc2 : ∀ g, (h ++ g)[c]? = some (.lst (txts l)) := fun g => get_old hc
  have hd2 : ∀ g, (h ++ g)[d]? = some (.lst (txts m)) := fun g => get_old hd
  generalize hA : h ++ (g1 ++ g2) = A
  have xa : A[a]? = some (inst l) := hA ▸ ha2 _
  have xb : A[b]? = some (inst m) := hA ▸ hb2 _
  have xc : A[c]? = some (.lst (txts l)) := hA ▸ hc2 _
  have xd : A[d]? = some (.lst (txts m)) := hA ▸ hd2 _
  have s1 : s_par 4 5 (e_call b_all (a_cons (e_lc (i_list (e_var 2)) (g_name 8) (t_yes) (e_2 o_in (e_var 8) (e_var 3)) [8]) (a_nil))) (e_call b_all (a_cons (e_lc (i_list (e_var 3)) (g_name 8) (t_yes) (e_2 o_in (e_var 8) (e_var 2)) [8]) (a_nil))) [some (.ref a), some (.ref b), some (.ref c), some (.ref d), none, none, none, none, none] h = .nx [some (.ref a), some (.ref b), some (.ref c), some (.ref d), some (.bl (Wi l m)), some (.bl (Wi m l)), none, none, none] A := by
    simp only [s_par, w1, w2, Res.to_ok]
    rw [← hA]; simp
  have c1 := le_spec (sh := sh) (n := j + 3) (by omega) xa xb fl
  have c2 := lt_spec (sh := sh) (n := j + 3) (by omega) xa xb fl
  have c3 := ge_spec (sh := sh) (n := j + 3) (by omega) xa xb fm
  have c4 := gt_spec (sh := sh) (n := j + 3) (by omega) xa xb fm
  have c5 := eq_spec (sh := sh) (n := j + 3) (by omega) xa xb
  have c6 := eq_spec (sh := sh) (n := j + 2) (by omega) xa xb
  have cn : o_ncmp (kap (prog sh) j) 0 10 (.ref a) (.ref b) A = .ok (.bl (!decide (l = m))) A := by
    simp only [o_ncmp, cls_inst xa, cls_inst xb, and_self, if_true, c6, noX_ok, Res.bind_ok, asB, liftO_some, okB]
  generalize hb6 : [Wi l m, Wi l m && !decide (l = m), Wi m l, Wi m l && !decide (l = m), decide (l = m), !decide (l = m)] = bs
  have lb : bs.length = 6 := by rw [← hb6]; rfl
  have gA : gc A (.ok (.ref A.length) (A ++ [.lst (bs.map .bl)])) = .ok (.ref A.length) (A ++ [.lst (bs.map .bl)]) := gc_new get_new (Nat.le_refl _) (by
    rw [LO.pure]
    induction bs with
    | nil => rfl
    | cons b r ih =>
      have q : ∀ bs : List Bool, D.pures (bs.map .bl) = true := by
        intro bs
        induction bs with
        | nil => rfl
        | cons b r ih => simp [D.pures, D.pure, ih]
      exact q _)
  have s2 : s_asg (e_lst (a_cons (e_2 (o_cmp (kap (prog sh) j) 0 22) (e_var 0) (e_var 1)) (a_cons (e_2 (o_cmp (kap (prog sh) j) 0 23) (e_var 0) (e_var 1)) (a_cons (e_2 (o_cmp (kap (prog sh) j) 0 24) (e_var 0) (e_var 1)) (a_cons (e_2 (o_cmp (kap (prog sh) j) 0 25) (e_var 0) (e_var 1)) (a_cons (e_2 (o_cmp (kap (prog sh) j) 0 10) (e_var 0) (e_var 1)) (a_cons (e_2 (o_ncmp (kap (prog sh) j) 0 10) (e_var 0) (e_var 1)) (a_nil)))))))) (g_name 6) [some (.ref a), some (.ref b), some (.ref c), some (.ref d), some (.bl (Wi l m)), some (.bl (Wi m l)), none, none, none] A = .nx [some (.ref a), some (.ref b), some (.ref c), some (.ref d), some (.bl (Wi l m)), some (.bl (Wi m l)), some (.ref A.length), none, none] (A ++ [.lst (bs.map .bl)]) := by
    have : e_lst (a_cons (e_2 (o_cmp (kap (prog sh) j) 0 22) (e_var 0) (e_var 1)) (a_cons (e_2 (o_cmp (kap (prog sh) j) 0 23) (e_var 0) (e_var 1)) (a_cons (e_2 (o_cmp (kap (prog sh) j) 0 24) (e_var 0) (e_var 1)) (a_cons (e_2 (o_cmp (kap (prog sh) j) 0 25) (e_var 0) (e_var 1)) (a_cons (e_2 (o_cmp (kap (prog sh) j) 0 10) (e_var 0) (e_var 1)) (a_cons (e_2 (o_ncmp (kap (prog sh) j) 0 10) (e_var 0) (e_var 1)) (a_nil)))))))
        [some (.ref a), some (.ref b), some (.ref c), some (.ref d), some (.bl (Wi l m)), some (.bl (Wi m l)), none, none, none] A = .ok (.ref A.length) (A ++ [.lst (bs.map .bl)]) := by
      rw [← hb6]
      simp [e_lst, a_cons, a_nil, e_2, e_var, o_cmp_inst xa xb, c1, c2, c3, c4, c5, cn, LIM, newO]
    simp only [s_asg, this, gA, Res.to_ok, g_name, onlyNx_nx, List.set_cons_succ, List.set_cons_zero]
  have s3 : s_asg (e_2 o_eq (e_var 2) (e_var 3)) (g_name 7) [some (.ref a), some (.ref b), some (.ref c), some (.ref d), some (.bl (Wi l m)), some (.bl (Wi m l)), some (.ref A.length), none, none] (A ++ [.lst (bs.map .bl)]) = .nx [some (.ref a), some (.ref b), some (.ref c), some (.ref d), some (.bl (Wi l m)), some (.bl (Wi m l)), some (.ref A.length), some (.bl (decide (l = m))), none] (A ++ [.lst (bs.map .bl)]) := by
    simp [s_asg, e_2, e_var, o_eq, eqD_refs (get_old xc) (get_old xd), liftO_some, okB, gc_bl, g_name]
  have r1 := repr_bools (κ := kap (prog sh) j) (h := A ++ [.lst (bs.map .bl)]) (k := A.length) get_new (by omega)
  have r2 := repr_bools (κ := kap (prog sh) j) (h := A ++ [.lst (bs.map .bl)] ++ [.lst (bs.map .bl)]) (k := (A ++ [LO.lst (bs.map .bl)]).length) get_new (by omega)
  have l2 : e_lst (a_cons (e_var 4) (a_cons (e_and (e_var 4) (e_not (e_var 7))) (a_cons (e_var 5) (a_cons (e_and (e_var 5) (e_not (e_var 7))) (a_cons (e_var 7) (a_cons (e_not (e_var 7)) (a_nil))))))) [some (.ref a), some (.ref b), some (.ref c), some (.ref d), some (.bl (Wi l m)), some (.bl (Wi m l)), some (.ref A.length), some (.bl (decide (l = m))), none] (A ++ [.lst (bs.map .bl)]) = .ok (.ref (A ++ [LO.lst (bs.map .bl)]).length) (A ++ [.lst (bs.map .bl)] ++ [.lst (bs.map .bl)]) := by
    rw [← hb6]
    cases w1 : Wi l m <;> cases w2 : Wi m l <;> simp [e_lst, a_cons, a_nil, e_var, e_and, e_not, asB, liftO_some, LIM, newO]
  rw [run_rt rfl (v := .bl true) (h' := A ++ [.lst (bs.map .bl)] ++ [.lst (bs.map .bl)]) ?_]
  · rw [← hA, List.append_assoc, List.append_assoc h]
    exact gc_app rfl
  · show b_law_compared (kap (prog sh) j) [some (.ref a), some (.ref b), some (.ref c), some (.ref d), none, none, none, none, none] h = _
    unfold b_law_compared
    rw [s_cons, s1]
    simp only [Flow.then]
    rw [s_cons, s2]
    simp only [Flow.then]
    rw [s_cons, s3]
    simp only [Flow.then, s_ret]
    rw [e_2, e_call]
    simp only [a_cons, a_nil, e_var, List.getElem?_cons_zero, List.getElem?_cons_succ, Res.bind_ok, r1]
    rw [e_call]
    simp only [a_cons, a_nil]
    rw [l2]
    simp only [Res.bind_ok, r2, eq_str, decide_true, Res.to_ok]
end K01
end

section
set_option linter.all false
set_option autoImplicit false
set_option maxRecDepth 100000
set_option maxHeartbeats 1000000
namespace K01
open IR
variable {sh : PD → Txt}
theorem gc_len {h h' : Heap} {v : D} (hv : v.pure = true) (hl : h'.length = h.length) : gc h (.ok v h') = .ok v h' := by
  simp only [gc, hv, if_true]
  split
  · rw [← hl, List.take_length]
  · rfl
theorem gcB_len {h h' : Heap} {b : Bool} (hl : h'.length = h.length) : gcB h (.ok b h') = .ok b h' := by
  simp only [gcB]
  split
  · rw [← hl, List.take_length]
  · rfl
theorem agree_get : ∀ {h h' : Heap} {k : Nat} {o o' : LO}, agree h h' = true → h[k]? = some o → h'[k]? = some o' → o'.pure = true ∨ o = o'
  | [], _, _, _, _, _, e, _ => by simp at e
  | a :: as, [], _, _, _, g, _, _ => by simp [agree] at g
  | a :: as, b :: bs, 0, o, o', g, e, e' => by
    simp only [agree, Bool.and_eq_true, Bool.or_eq_true, decide_eq_true_eq] at g
    simp at e e'
    subst e e'
    exact g.1
  | a :: as, b :: bs, k + 1, o, o', g, e, e' => by
    simp only [agree, Bool.and_eq_true] at g
    exact agree_get g.2 (by simpa using e) (by simpa using e')
theorem gc_imp {h h' : Heap} {v : D} {k : Nat} {o o' : LO} (e : h[k]? = some o) (e' : h'[k]? = some o') (hp : o'.pure = false) (ne : o ≠ o') : gc h (.ok v h') = .ok v h' := by
  have : ¬ agree h h' = true := fun g => by
    rcases agree_get g e e' with q | q
    · rw [hp] at q; cases q
    · exact ne q
  simp only [gc, this, if_false, Bool.false_eq_true]
theorem gc_new_set {h g : Heap} {o q : LO} {r p : Nat} (hq : q.pure = true) (hr : (h.set p q ++ g)[r]? = some o) (hl : h.length ≤ r) (ho : o.pure = true) : gc h (.ok (.ref r) (h.set p q ++ g)) = .ok (.ref h.length) (h.set p q ++ [o]) := by
  have t : (h.set p q ++ g).take h.length = h.set p q := by
    rw [List.take_append_of_le_length (by simp)]
    rw [List.take_of_length_le (by simp)]
  simp [gc, agree_set h g p q hq, D.pure, hl, hr, ho, t]
theorem gc_ex {h h' : Heap} {b : Bool} : ∃ h'', gc h (.ok (.bl b) h') = .ok (.bl b) h'' := by
  by_cases g : agree h h' = true
  · exact ⟨h'.take h.length, by simp only [gc, g, if_true, D.pure]⟩
  · exact ⟨h', by simp only [gc, g, if_false, Bool.false_eq_true]⟩
structure St (p N M Q : Nat) (names : List Txt) (k : Nat) (H : Heap) (ms ds : Ps) : Prop where
  pot : ∃ l, H[p]? = some (.lst l) ∧ Pot k l
  nam : H[N]? = some (.lst (txts names))
  made : H[M]? = some (.lst (refs ms))
  dues : H[Q]? = some (.lst (refs ds))
  im : ∀ q ∈ ms, H[q.1]? = some (inst q.2)
  id : ∀ q ∈ ds, H[q.1]? = some (.lst (txts q.2)) ∧ q.1 ≠ p ∧ q.1 ≠ M ∧ q.1 ≠ Q
  np : N ≠ p
  mp : M ≠ p
  qp : Q ≠ p
  nm : N ≠ M
  nq : N ≠ Q
  mq : M ≠ Q
  km : ∀ q ∈ ms, Kinds q.2 ∧ ∀ z ∈ q.2, z ∈ names
section
variable {p N M Q k : Nat} {names : List Txt} {H : Heap} {ms ds : Ps}
theorem St.app (s : St p N M Q names k H ms ds) (g : Heap) : St p N M Q names k (H ++ g) ms ds := by
  obtain ⟨⟨l, a, b⟩, c, d, e, f, i, r⟩ := s
  exact ⟨⟨l, get_old a, b⟩, get_old c, get_old d, get_old e, fun q hq => get_old (f q hq), fun q hq => ⟨get_old (i q hq).1, (i q hq).2⟩, ‹_›, ‹_›, ‹_›, ‹_›, ‹_›, ‹_›, ‹_›⟩
theorem inst_ne {H : Heap} {a b : Nat} {l : List Txt} {ds : List D} (e1 : H[a]? = some (inst l)) (e2 : H[b]? = some (.lst ds)) : a ≠ b := by
  intro e; subst e; rw [e1] at e2; cases e2
theorem St.setP (s : St p N M Q names k H ms ds) {k' : Nat} {l' : List D} (hl : Pot k' l') : St p N M Q names k' (H.set p (.lst l')) ms ds := by
  obtain ⟨⟨l, a, b⟩, c, d, e, f, i, np, mp, qp, r⟩ := s
  refine ⟨⟨l', get_set a, hl⟩, ?_, ?_, ?_, fun q hq => ?_, fun q hq => ⟨?_, (i q hq).2⟩, np, mp, qp, ‹_›, ‹_›, ‹_›, ‹_›⟩
  · rw [List.getElem?_set_ne (Ne.symm np)]; exact c
  · rw [List.getElem?_set_ne (Ne.symm mp)]; exact d
  · rw [List.getElem?_set_ne (Ne.symm qp)]; exact e
  · rw [List.getElem?_set_ne (Ne.symm (inst_ne (f q hq) a))]; exact f q hq
  · rw [List.getElem?_set_ne (Ne.symm (i q hq).2.1)]; exact (i q hq).1
theorem St.addM (s : St p N M Q names k H ms ds) {t : Nat} {L : List Txt} (ht : H[t]? = some (inst L)) (kL : Kinds L) (sL : ∀ z ∈ L, z ∈ names) : St p N M Q names k (H.set M (.lst (refs ms ++ [.ref t]))) (ms ++ [(t, L)]) ds := by
  obtain ⟨⟨l, a, b⟩, c, d, e, f, i, np, mp, qp, nm, nq, mq, km⟩ := s
  refine ⟨⟨l, ?_, b⟩, ?_, ?_, ?_, fun q hq => ?_, fun q hq => ⟨?_, (i q hq).2⟩, np, mp, qp, nm, nq, mq, fun q hq => ?_⟩
  · rw [List.getElem?_set_ne mp]; exact a
  · rw [List.getElem?_set_ne (Ne.symm nm)]; exact c
  · rw [get_set d]; simp
  · rw [List.getElem?_set_ne mq]; exact e
  · rcases List.mem_append.mp hq with q' | q'
    · rw [List.getElem?_set_ne (Ne.symm (inst_ne (f q q') d))]; exact f q q'
    · rw [List.mem_singleton] at q'; subst q'
      rw [List.getElem?_set_ne (Ne.symm (inst_ne ht d))]; exact ht
  · rw [List.getElem?_set_ne (Ne.symm (i q hq).2.2.1)]; exact (i q hq).1
  · rcases List.mem_append.mp hq with q' | q'
    · exact km q q'
    · rw [List.mem_singleton] at q'; subst q'
      exact ⟨kL, sL⟩
theorem St.addD (s : St p N M Q names k H ms ds) {t : Nat} {L : List Txt} (ht : H[t]? = some (.lst (txts L))) (tp : t ≠ p) (tm : t ≠ M) (tq : t ≠ Q) : St p N M Q names k (H.set Q (.lst (refs ds ++ [.ref t]))) ms (ds ++ [(t, L)]) := by
  obtain ⟨⟨l, a, b⟩, c, d, e, f, i, np, mp, qp, nm, nq, mq, km⟩ := s
  refine ⟨⟨l, ?_, b⟩, ?_, ?_, ?_, fun q hq => ?_, fun q hq => ?_, np, mp, qp, nm, nq, mq, km⟩
  · rw [List.getElem?_set_ne qp]; exact a
  · rw [List.getElem?_set_ne (Ne.symm nq)]; exact c
  · rw [List.getElem?_set_ne (Ne.symm mq)]; exact d
  · rw [get_set e]; simp
  · rw [List.getElem?_set_ne (Ne.symm (inst_ne (f q hq) e))]; exact f q hq
  · rcases List.mem_append.mp hq with q' | q'
    · rw [List.getElem?_set_ne (Ne.symm (i q q').2.2.2)]; exact i q q'
    · rw [List.mem_singleton] at q'; subst q'
      refine ⟨?_, tp, tm, tq⟩
      rw [List.getElem?_set_ne (Ne.symm tq)]; exact ht
theorem St.take (s : St p N M Q names k H ms ds) {n : Nat} {u : Int} (hn : 4 ≤ n) (hk : k < 1000000) (hu : 0 < u) (hu2 : u < 1073741824) :
    ∃ d l', callF (prog sh) n 27 [.ref p, .int u] H = .ok (.int d) (H.set p (.lst l')) ∧ St p N M Q names (k + 1) (H.set p (.lst l')) ms ds ∧ 0 ≤ d ∧ d < u ∧ Pot (k + 1) l' := by
  obtain ⟨l, a, b⟩ := s.pot
  obtain ⟨d, l', e, hl, d0, d1⟩ := take_spec (sh := sh) hn a b hk hu hu2
  exact ⟨d, l', e, s.setP hl, d0, d1, hl⟩
theorem St.of (s : St p N M Q names k H ms ds) {n r : Nat} {xs : List D} (hn : 5 ≤ n) (hr : H[r]? = some (.lst xs)) (ne : r ≠ p) (hp : D.pures xs = true) (hk : k < 1000000) (h0 : 0 < xs.length) (h1 : xs.length < 1000) :
    ∃ d l', callF (prog sh) n 28 [.ref p, .ref r] H = .ok d (H.set p (.lst l')) ∧ St p N M Q names (k + 1) (H.set p (.lst l')) ms ds ∧ d ∈ xs := by
  obtain ⟨l, a, b⟩ := s.pot
  obtain ⟨d, l', e, hl, hm⟩ := of_spec (sh := sh) hn a hr ne hp b hk h0 h1
  exact ⟨d, l', e, s.setP hl, hm⟩
theorem St.item (s : St p N M Q names k H ms ds) {i : Int} (h0 : 0 ≤ i) (h1 : i < ms.length) : ∃ (a : Nat) (L : List Txt), ms[i.toNat]? = some (a, L) ∧ o_item (.ref M) (.int i) H = .ok (.ref a) H ∧ H[a]? = some (inst L) ∧ Kinds L ∧ ∀ z ∈ L, z ∈ names := by
  have : i.toNat < ms.length := by omega
  refine ⟨ms[i.toNat].1, ms[i.toNat].2, List.getElem?_eq_getElem this, ?_, s.im _ (List.getElem_mem this), s.km _ (List.getElem_mem this)⟩
  have e := at_refs (ps := ms) this
  rw [Int.toNat_of_nonneg h0] at e
  simp only [o_item, items, s.made, e, liftO_some]
theorem St.itemD (s : St p N M Q names k H ms ds) (same : ms.map (·.2) = ds.map (·.2)) {i : Int} {a : Nat} {L : List Txt} (h0 : 0 ≤ i) (e : ms[i.toNat]? = some (a, L)) : ∃ b, o_item (.ref Q) (.int i) H = .ok (.ref b) H ∧ H[b]? = some (.lst (txts L)) := by
  have hm : i.toNat < ms.length := (List.getElem?_eq_some_iff.mp e).1
  have hl : ds.length = ms.length := by have := congrArg List.length same; simpa using this.symm
  have hd : i.toNat < ds.length := by omega
  have eL : ds[i.toNat].2 = L := by
    have := congrArg (fun x => x[i.toNat]?) same
    simp only [List.getElem?_map, e, List.getElem?_eq_getElem hd, Option.map_some, Option.some.injEq] at this
    exact this.symm
  refine ⟨ds[i.toNat].1, ?_, by have := (s.id _ (List.getElem_mem hd)).1; rwa [eL] at this⟩
  have e := at_refs (ps := ds) hd
  rw [Int.toNat_of_nonneg h0] at e
  simp only [o_item, items, s.dues, e, liftO_some]
end
theorem few_sub {names L : List Txt} (an : Asc names) (aL : Asc L) (s : ∀ z ∈ L, z ∈ names) : L.length ≤ names.length := by
  have : L = names.filter fun z => decide (z ∈ L) := asc_ext aL (an.sublist List.filter_sublist) fun z => by
    simp only [List.mem_filter, decide_eq_true_eq]
    exact ⟨fun h => ⟨s z h, h⟩, fun h => h.2⟩
  rw [this]
  exact List.length_filter_le _ _
/-- how rows of kinds are written -/
theorem repr_rows {κ : Kap} {h : Heap} {k : Nat} {Ls : List (List Txt)} (e : h[k]? = some (.lst (Ls.map fun L => .tup (txts L)))) (hl : Ls.length ≤ 12) (hk : ∀ L ∈ Ls, L.length ≤ 6 ∧ ∀ w ∈ L, w.length ≤ 8) :
    b_repr κ [.ref k] h = .ok (.str (κ.shown (.list (Ls.map fun L => .tuple (L.map PD.str))))) h := by
  have q : ∀ Ls : List (List Txt), mapO (rd h 59) (Ls.map fun L => .tup (txts L)) = some (Ls.map fun L => .tuple (L.map PD.str)) := by
    intro Ls
    induction Ls with
    | nil => rfl
    | cons a r ih =>
      have : rd h 59 (.tup (txts a)) = some (.tuple (a.map PD.str)) := by
        show (mapO (rd h 58) (txts a)).map PD.tuple = _
        rw [rd_strs h 57]; rfl
      simp only [List.map_cons, mapO, this, ih]
  have r : rd h DEEP (.ref k) = some (.list (Ls.map fun L => .tuple (L.map PD.str))) := by
    show (match h[k]? with | some (.lst ds) => (mapO (rd h 59) ds).map PD.list | _ => none) = _
    rw [e]
    show (mapO (rd h 59) (Ls.map fun L => .tup (txts L))).map PD.list = _
    rw [q]; rfl
  have t1 : ∀ L : List Txt, PD.tinys (L.map PD.str) = true := by
    intro L
    induction L with
    | nil => rfl
    | cons b r ih => simp [PD.tinys, PD.tiny, ih]
  have t : ∀ Ls : List (List Txt), PD.tinys (Ls.map fun L => .tuple (L.map PD.str)) = true := by
    intro L
    induction L with
    | nil => rfl
    | cons b r ih => simp [PD.tinys, PD.tiny, ih, t1]
  have w1 : ∀ L : List Txt, (∀ w ∈ L, w.length ≤ 8) → PD.wts (L.map PD.str) ≤ 9 * L.length := by
    intro L
    induction L with
    | nil => intro _; simp [PD.wts]
    | cons b r ih =>
      intro h
      have := ih fun w hw => h w (List.mem_cons_of_mem _ hw)
      have := h b List.mem_cons_self
      simp only [List.map_cons, PD.wts, PD.wt, List.length_cons]; omega
  have w : ∀ Ls : List (List Txt), (∀ L ∈ Ls, L.length ≤ 6 ∧ ∀ w ∈ L, w.length ≤ 8) → PD.wts (Ls.map fun L => .tuple (L.map PD.str)) ≤ 55 * Ls.length := by
    intro Ls
    induction Ls with
    | nil => intro _; simp [PD.wts]
    | cons b r ih =>
      intro h
      have := ih fun w hw => h w (List.mem_cons_of_mem _ hw)
      have h1 := h b List.mem_cons_self
      have := w1 b h1.2
      simp only [List.map_cons, PD.wts, PD.wt, List.length_cons]; omega
  have f : (PD.list (Ls.map fun L => .tuple (L.map PD.str))).fits = true := by
    have := w Ls hk
    have : PD.wts (Ls.map fun L => .tuple (L.map PD.str)) ≤ 1048576 := by omega
    simp only [PD.fits, PD.tiny, PD.wt, t, this, decide_true, Bool.and_self, Bool.true_or]
  simp only [b_repr, r, liftO_some, Res.bind_ok, f, if_true]
theorem kinds_spec {n a : Nat} {h : Heap} {l : List Txt} (hn : 4 ≤ n) (ha : h[a]? = some (inst l)) : callF (prog sh) n 9 [.ref a] h = .ok (.tup (txts l)) h := by
  obtain ⟨j, rfl⟩ : ∃ j, n = j + 4 := ⟨n - 4, by omega⟩
  rw [callF_succ _ _ _ _ _ d_Build_kinds rfl]
  have g1 : gc h (.ok (.tup (txts l)) h) = .ok (.tup (txts l)) h := gc_self (pures_strs l)
  simp [runDef, d_Build_kinds, b_Build_kinds, s_ret, e_1, e_var, fld_inst ha, g1]
theorem contains_spec {n a : Nat} {h : Heap} {l : List Txt} {w : Txt} (hn : 4 ≤ n) (ha : h[a]? = some (inst l)) : callF (prog sh) n 11 [.ref a, .str w] h = .ok (.bl (decide (w ∈ l))) h := by
  obtain ⟨j, rfl⟩ : ∃ j, n = j + 4 := ⟨n - 4, by omega⟩
  rw [callF_succ _ _ _ _ _ d_Build_contains rfl]
  simp [runDef, d_Build_contains, b_Build_contains, s_ret, e_and, e_1, e_2, e_var, o_isa, isTy, Ty.str, liftO_some, okB, asB, fld_inst ha, o_in, isIn_tup, gc_bl]
theorem abs_spec {n a : Nat} {h : Heap} {l : List Txt} (hn : 4 ≤ n) (ha : h[a]? = some (inst l)) : callF (prog sh) n 12 [.ref a] h = .ok (.int l.length) h := by
  obtain ⟨j, rfl⟩ : ∃ j, n = j + 4 := ⟨n - 4, by omega⟩
  rw [callF_succ _ _ _ _ _ d_Build_abs rfl]
  simp [runDef, d_Build_abs, b_Build_abs, s_ret, e_call, a_cons, a_nil, e_1, e_var, fld_inst ha, b_len, lenD, liftO_some, gc_int]
theorem bool_spec {n a : Nat} {h : Heap} {l : List Txt} (hn : 4 ≤ n) (ha : h[a]? = some (inst l)) : callF (prog sh) n 13 [.ref a] h = .ok (.bl (!l.isEmpty)) h := by
  obtain ⟨j, rfl⟩ : ∃ j, n = j + 4 := ⟨n - 4, by omega⟩
  rw [callF_succ _ _ _ _ _ d_Build_bool rfl]
  simp [runDef, d_Build_bool, b_Build_bool, s_ret, e_call, a_cons, a_nil, e_1, e_var, fld_inst ha, b_bool, truthB, liftO_some, okB, gc_bl]
end K01
end

section
set_option linter.all false
set_option autoImplicit false
set_option maxRecDepth 100000
set_option maxHeartbeats 1000000
namespace K01
open IR
variable {sh : PD → Txt}
def ops : List D := [.str [124], .str [38], .str [45], .str [94]]
/-- word and way drawn -/
theorem step_A {n p N M Q k : Nat} {names : List Txt} {H : Heap} {ms ds : Ps} (s : St p N M Q names k H ms ds) (hk : k < 900000) {x4 x5 x6 x7 x8 x9 x10 x11 x12 : Option D} :
    ∃ w d H', OpT w ∧ St p N M Q names (k + 2) H' ms ds ∧
      s_par 6 7 (e_call (callF (prog sh) (n + 5) 28) (a_cons (e_var 0) (a_cons (e_lst (a_cons (e_c (.str [124])) (a_cons (e_c (.str [38])) (a_cons (e_c (.str [45])) (a_cons (e_c (.str [94])) (a_nil)))))) (a_nil)))) (e_call (callF (prog sh) (n + 5) 27) (a_cons (e_var 0) (a_cons (e_c (.int 6)) (a_nil))))
        [some (.ref p), some (.ref N), some (.ref M), some (.ref Q), x4, x5, x6, x7, x8, x9, x10, x11, x12] H = .nx [some (.ref p), some (.ref N), some (.ref M), some (.ref Q), x4, x5, some (.str w), some (.int d), x8, x9, x10, x11, x12] H' := by
  have s1 := s.app [.lst ops]
  have pl : p < H.length := by obtain ⟨l, a, _⟩ := s.pot; exact get_lt a
  obtain ⟨d, l1, e1, s2, dm⟩ := s1.of (sh := sh) (n := n + 5) (r := H.length) (by omega) get_new (by omega) rfl (by omega) (by decide) (by decide)
  obtain ⟨d2, l2, e2, s3, d0, d6, _⟩ := s2.take (sh := sh) (n := n + 5) (u := 6) (by omega) (by omega) (by decide) (by decide)
  obtain ⟨w, rfl, hw⟩ : ∃ w, d = .str w ∧ OpT w := by
    simp only [ops, List.mem_cons, List.mem_nil_iff, or_false] at dm
    rcases dm with rfl | rfl | rfl | rfl
    · exact ⟨_, rfl, .inl rfl⟩
    · exact ⟨_, rfl, .inr (.inl rfl)⟩
    · exact ⟨_, rfl, .inr (.inr (.inl rfl))⟩
    · exact ⟨_, rfl, .inr (.inr (.inr rfl))⟩
  refine ⟨w, d2, _, hw, s3, ?_⟩
  simp only [ops] at e1 e2 ⊢
  simp [s_par, e_call, a_cons, a_nil, e_var, e_lst, e_c, LIM, newO, e1, e2]
/-- at, beside and a name drawn -/
theorem step_B {n p N M Q k : Nat} {names : List Txt} {H : Heap} {ms ds : Ps} (s : St p N M Q names k H ms ds) (hk : k < 900000) (hm : 0 < ms.length) (hm2 : ms.length < 1000) (hn0 : 0 < names.length) (hn2 : names.length < 1000) {x4 x5 x6 x7 x8 x9 x10 x11 x12 : Option D} :
    ∃ i j v H', 0 ≤ i ∧ i < (ms.length : Int) ∧ 0 ≤ j ∧ j < (ms.length : Int) ∧ v ∈ names ∧ St p N M Q names (k + 3) H' ms ds ∧
      s_par3 8 9 10 (e_call (callF (prog sh) (n + 5) 27) (a_cons (e_var 0) (a_cons (e_call b_len (a_cons (e_var 2) (a_nil))) (a_nil)))) (e_call (callF (prog sh) (n + 5) 27) (a_cons (e_var 0) (a_cons (e_call b_len (a_cons (e_var 2) (a_nil))) (a_nil)))) (e_call (callF (prog sh) (n + 5) 28) (a_cons (e_var 0) (a_cons (e_var 1) (a_nil))))
        [some (.ref p), some (.ref N), some (.ref M), some (.ref Q), x4, x5, x6, x7, x8, x9, x10, x11, x12] H = .nx [some (.ref p), some (.ref N), some (.ref M), some (.ref Q), x4, x5, x6, x7, some (.int i), some (.int j), some (.str v), x11, x12] H' := by
  obtain ⟨i, l1, e1, s1, i0, i1, _⟩ := s.take (sh := sh) (n := n + 5) (u := ms.length) (by omega) (by omega) (by omega) (by omega)
  obtain ⟨j, l2, e2, s2, j0, j1, _⟩ := s1.take (sh := sh) (n := n + 5) (u := ms.length) (by omega) (by omega) (by omega) (by omega)
  obtain ⟨d, l3, e3, s3, dm⟩ := s2.of (sh := sh) (n := n + 5) (r := N) (by omega) s2.nam s2.np (pures_strs names) (by omega) (by simpa using hn0) (by simpa using hn2)
  obtain ⟨v, hv, rfl⟩ := List.mem_map.mp dm
  refine ⟨i, j, v, _, i0, i1, j0, j1, hv, s3, ?_⟩
  have n1 := len_ref s.made
  have n2 := len_ref s1.made
  simp only [refs, List.length_map] at n1 n2
  simp only [s_par3, e_call, a_cons, a_nil, e_var, List.getElem?_cons_zero, List.getElem?_cons_succ, Res.bind_ok, refs, n1, e1, Res.to_ok, n2, e2, e3, List.set_cons_succ, List.set_cons_zero]
/-- at, beside drawn again -/
theorem step_G {n p N M Q k : Nat} {names : List Txt} {H : Heap} {ms ds : Ps} (s : St p N M Q names k H ms ds) (hk : k < 900000) (hm : 0 < ms.length) (hm2 : ms.length < 1000) {x4 x5 x6 x7 x8 x9 x10 x11 x12 : Option D} :
    ∃ i j H', 0 ≤ i ∧ i < (ms.length : Int) ∧ 0 ≤ j ∧ j < (ms.length : Int) ∧ St p N M Q names (k + 2) H' ms ds ∧ (∀ (a : Nat) (o : LO), a ≠ p → H[a]? = some o → H'[a]? = some o) ∧
      s_par 8 9 (e_call (callF (prog sh) (n + 5) 27) (a_cons (e_var 0) (a_cons (e_call b_len (a_cons (e_var 2) (a_nil))) (a_nil)))) (e_call (callF (prog sh) (n + 5) 27) (a_cons (e_var 0) (a_cons (e_call b_len (a_cons (e_var 2) (a_nil))) (a_nil))))
        [some (.ref p), some (.ref N), some (.ref M), some (.ref Q), x4, x5, x6, x7, x8, x9, x10, x11, x12] H = .nx [some (.ref p), some (.ref N), some (.ref M), some (.ref Q), x4, x5, x6, x7, some (.int i), some (.int j), x10, x11, x12] H' := by
  obtain ⟨i, l1, e1, s1, i0, i1, _⟩ := s.take (sh := sh) (n := n + 5) (u := ms.length) (by omega) (by omega) (by omega) (by omega)
  obtain ⟨j, l2, e2, s2, j0, j1, _⟩ := s1.take (sh := sh) (n := n + 5) (u := ms.length) (by omega) (by omega) (by omega) (by omega)
  refine ⟨i, j, _, i0, i1, j0, j1, s2, fun a o ne e => by rw [List.getElem?_set_ne (Ne.symm ne), List.getElem?_set_ne (Ne.symm ne)]; exact e, ?_⟩
  have n1 := len_ref s.made
  have n2 := len_ref s1.made
  simp only [refs, List.length_map] at n1 n2
  simp only [s_par, e_call, a_cons, a_nil, e_var, List.getElem?_cons_zero, List.getElem?_cons_succ, Res.bind_ok, refs, n1, e1, Res.to_ok, n2, e2, List.set_cons_succ, List.set_cons_zero]
/-- an operator's result beside what is due -/
theorem par_two {n : Nat} {w : Txt} {H : Heap} {e1 e2 : SE} {σ : Env} {l m : List Txt} (hn : 30 ≤ n) (hw : OpT w) (hl : Kinds l) (hm : Kinds m) (few : l.length + m.length < 1000)
    (he : Out H (e1 σ H) fun z => opP w (z ∈ l) (z ∈ m))
    (hd : ∀ o, ∃ (a b : Nat) (g : Heap), e2 σ (H ++ [o]) = callF (prog sh) n 31 [.str w, .ref a, .ref b] (H ++ [o] ++ g) ∧ (H ++ [o] ++ g)[a]? = some (.lst (txts l)) ∧ (H ++ [o] ++ g)[b]? = some (.lst (txts m))) :
    ∃ L r g, s_par 11 5 e1 e2 σ H = .nx ((σ.set 11 (some (.ref H.length))).set 5 (some (.ref r))) (H ++ g) ∧ (H ++ g)[H.length]? = some (inst L) ∧ (H ++ g)[r]? = some (.lst (txts L)) ∧ H.length ≤ r ∧ Kinds L ∧ ∀ z, z ∈ L ↔ opP w (z ∈ l) (z ∈ m) := by
  obtain ⟨L, e, kL, mL⟩ := he
  obtain ⟨a, b, g, ed, ga, gb⟩ := hd (inst L)
  obtain ⟨L2, ee, aL2, mL2⟩ := due_spec (sh := sh) (n := n) (by omega) hw ga gb hl.asc hm.asc few
  have : L2 = L := asc_ext aL2 kL.asc fun z => (mL2 z).trans (mL z).symm
  subst this
  have ln : H.length < (H ++ [inst L2] ++ g).length := by simp
  refine ⟨L2, (H ++ [inst L2] ++ g).length, [inst L2] ++ g ++ [.lst (txts L2)], ?_, ?_, ?_, by omega, kL, mL⟩
  · simp only [s_par, e, Res.to_ok, ed, ee]
    simp
  · simp
  · have := get_new (h := H ++ [inst L2] ++ g) (o := .lst (txts L2))
    simpa using this
/-- the five ways -/
abbrev b_C (κ : Kap) : SS := (s_if (t_b (e_2 o_eq (e_var 7) (e_c (.int 0)))) (s_par 11 5 (e_call (κ.fn 32) (a_cons (e_var 6) (a_cons (e_var 10) (a_cons (e_2 o_item (e_var 2) (e_var 8)) (a_nil))))) (e_call (κ.fn 31) (a_cons (e_var 6) (a_cons (e_lst (a_cons (e_var 10) (a_nil))) (a_cons (e_2 o_item (e_var 3) (e_var 8)) (a_nil)))))) (s_if (t_b (e_2 o_eq (e_var 7) (e_c (.int 1)))) (s_par 11 5 (e_call (κ.fn 32) (a_cons (e_var 6) (a_cons (e_2 o_item (e_var 2) (e_var 8)) (a_cons (e_var 10) (a_nil))))) (e_call (κ.fn 31) (a_cons (e_var 6) (a_cons (e_2 o_item (e_var 3) (e_var 8)) (a_cons (e_lst (a_cons (e_var 10) (a_nil))) (a_nil)))))) (s_if (t_b (e_2 o_eq (e_var 7) (e_c (.int 2)))) (s_par 11 5 (e_call (κ.fn 33) (a_cons (e_var 6) (a_cons (e_2 o_item (e_var 2) (e_var 8)) (a_cons (e_var 10) (a_nil))))) (e_call (κ.fn 31) (a_cons (e_var 6) (a_cons (e_2 o_item (e_var 3) (e_var 8)) (a_cons (e_lst (a_cons (e_var 10) (a_nil))) (a_nil)))))) (s_if (t_b (e_2 o_eq (e_var 7) (e_c (.int 3)))) (s_par 11 5 (e_call (κ.fn 33) (a_cons (e_var 6) (a_cons (e_2 o_item (e_var 2) (e_var 8)) (a_cons (e_2 o_item (e_var 2) (e_var 9)) (a_nil))))) (e_call (κ.fn 31) (a_cons (e_var 6) (a_cons (e_2 o_item (e_var 3) (e_var 8)) (a_cons (e_2 o_item (e_var 3) (e_var 9)) (a_nil)))))) (s_par 11 5 (e_call (κ.fn 32) (a_cons (e_var 6) (a_cons (e_2 o_item (e_var 2) (e_var 8)) (a_cons (e_2 o_item (e_var 2) (e_var 9)) (a_nil))))) (e_call (κ.fn 31) (a_cons (e_var 6) (a_cons (e_2 o_item (e_var 3) (e_var 8)) (a_cons (e_2 o_item (e_var 3) (e_var 9)) (a_nil))))))))))
theorem kinds_few {names : List Txt} (an : Asc names) (n6 : names.length ≤ 6) {L : List Txt} (kL : Kinds L) (sL : ∀ z ∈ L, z ∈ names) : L.length ≤ 6 := Nat.le_trans (few_sub an kL.asc sL) n6
theorem eq_int {h : Heap} (i j : Int) : o_eq (.int i) (.int j) h = .ok (.bl (decide (i = j))) h := by
  by_cases e : i = j
  · subst e; simp [o_eq, eqD, rd, PD.eqv, liftO_some, okB]
  · simp [o_eq, eqD, rd, PD.eqv, liftO_some, okB, e]
section
variable {n p N M Q k : Nat} {names : List Txt} {H : Heap} {ms ds : Ps} {w v : Txt} {d i j : Int} {x4 x5 x11 x12 : Option D}
theorem way0 (s : St p N M Q names k H ms ds) (same : ms.map (·.2) = ds.map (·.2)) (an : Asc names) (n6 : names.length ≤ 6) (kn : Kinds names) (hw : OpT w) (hv : v ∈ names) (i0 : 0 ≤ i) (i1 : i < (ms.length : Int)) (j0 : 0 ≤ j) (j1 : j < (ms.length : Int)) : ∃ L r g, (s_par 11 5 (e_call ((kap (prog sh) (n + 40)).fn 32) (a_cons (e_var 6) (a_cons (e_var 10) (a_cons (e_2 o_item (e_var 2) (e_var 8)) (a_nil))))) (e_call ((kap (prog sh) (n + 40)).fn 31) (a_cons (e_var 6) (a_cons (e_lst (a_cons (e_var 10) (a_nil))) (a_cons (e_2 o_item (e_var 3) (e_var 8)) (a_nil)))))) [some (.ref p), some (.ref N), some (.ref M), some (.ref Q), x4, x5, some (.str w), some (.int d), some (.int i), some (.int j), some (.str v), x11, x12] H = .nx [some (.ref p), some (.ref N), some (.ref M), some (.ref Q), x4, some (.ref r), some (.str w), some (.int d), some (.int i), some (.int j), some (.str v), some (.ref H.length), x12] (H ++ g) ∧ (H ++ g)[H.length]? = some (inst L) ∧ (H ++ g)[r]? = some (.lst (txts L)) ∧ H.length ≤ r ∧ Kinds L ∧ ∀ z ∈ L, z ∈ names := by
  obtain ⟨a, l, ma, ia, ga, kl, sl⟩ := s.item i0 i1
  obtain ⟨b, m, mb, ib, gb, km, sm⟩ := s.item j0 j1
  have kv : Kinds [v] := ⟨fun z hz => by rw [List.mem_singleton] at hz; subst hz; exact kn.word _ hv, List.pairwise_singleton _ _, by simp⟩
  have fl := kinds_few an n6 kl sl
  have fm := kinds_few an n6 km sm
  have sv : ∀ z ∈ [v], z ∈ names := fun z hz => by rw [List.mem_singleton] at hz; subst hz; exact hv
  have he : Out H ((e_call ((kap (prog sh) (n + 40)).fn 32) (a_cons (e_var 6) (a_cons (e_var 10) (a_cons (e_2 o_item (e_var 2) (e_var 8)) (a_nil))))) [some (.ref p), some (.ref N), some (.ref M), some (.ref Q), x4, x5, some (.str w), some (.int d), some (.int i), some (.int j), some (.str v), x11, x12] H) fun z => opP w (z ∈ [v]) (z ∈ l) := by
    have q := by_spec (sh := sh) (n := n + 40 + 3) (x := .str v) (y := .ref a) (by omega) hw (.inr ⟨v, rfl, kn.word v hv, rfl⟩) (.inl ⟨a, rfl, ga⟩) (.inr ⟨a, rfl⟩) kv kl (by first | omega | (simp; omega))
    simp only [e_call, a_cons, a_nil, e_2, e_var, List.getElem?_cons_zero, List.getElem?_cons_succ, Res.bind_ok, ia, ib]
    exact q
  have hd : ∀ o, ∃ (a b : Nat) (g : Heap), (e_call ((kap (prog sh) (n + 40)).fn 31) (a_cons (e_var 6) (a_cons (e_lst (a_cons (e_var 10) (a_nil))) (a_cons (e_2 o_item (e_var 3) (e_var 8)) (a_nil))))) [some (.ref p), some (.ref N), some (.ref M), some (.ref Q), x4, x5, some (.str w), some (.int d), some (.int i), some (.int j), some (.str v), x11, x12] (H ++ [o]) = callF (prog sh) (n + 40 + 3) 31 [.str w, .ref a, .ref b] (H ++ [o] ++ g) ∧ (H ++ [o] ++ g)[a]? = some (.lst (txts [v])) ∧ (H ++ [o] ++ g)[b]? = some (.lst (txts l)) := by
    intro o
    obtain ⟨c, ic, gc⟩ := ((s.app [o]).app [.lst (txts [v])]).itemD same i0 ma
    refine ⟨(H ++ [o]).length, c, [.lst (txts [v])], ?_, get_new, gc⟩
    simp only [e_call, a_cons, a_nil, e_2, e_lst, e_var, List.getElem?_cons_zero, List.getElem?_cons_succ, Res.bind_ok, newO, List.length_cons, List.length_nil, show ((0 : Nat) + 1 ≤ LIM) from by decide, if_true]
    simp only [txts, List.map_cons, List.map_nil] at ic
    rw [ic]; rfl
  obtain ⟨L, r, g, e, g1, g2, g3, kL, mL⟩ := par_two (n := n + 40 + 3) (by omega) hw kv kl (by first | omega | (simp; omega)) he hd
  refine ⟨L, r, g, e, g1, g2, g3, kL, fun z hz => ?_⟩
  rcases (mL z).mp hz with ⟨_, q | q⟩ | ⟨_, q, _⟩ | ⟨_, q, _⟩ | ⟨_, ⟨q, _⟩ | ⟨q, _⟩⟩
  · exact sv z q
  · exact sl z q
  · exact sv z q
  · exact sv z q
  · exact sv z q
  · exact sl z q
theorem way1 (s : St p N M Q names k H ms ds) (same : ms.map (·.2) = ds.map (·.2)) (an : Asc names) (n6 : names.length ≤ 6) (kn : Kinds names) (hw : OpT w) (hv : v ∈ names) (i0 : 0 ≤ i) (i1 : i < (ms.length : Int)) (j0 : 0 ≤ j) (j1 : j < (ms.length : Int)) : ∃ L r g, (s_par 11 5 (e_call ((kap (prog sh) (n + 40)).fn 32) (a_cons (e_var 6) (a_cons (e_2 o_item (e_var 2) (e_var 8)) (a_cons (e_var 10) (a_nil))))) (e_call ((kap (prog sh) (n + 40)).fn 31) (a_cons (e_var 6) (a_cons (e_2 o_item (e_var 3) (e_var 8)) (a_cons (e_lst (a_cons (e_var 10) (a_nil))) (a_nil)))))) [some (.ref p), some (.ref N), some (.ref M), some (.ref Q), x4, x5, some (.str w), some (.int d), some (.int i), some (.int j), some (.str v), x11, x12] H = .nx [some (.ref p), some (.ref N), some (.ref M), some (.ref Q), x4, some (.ref r), some (.str w), some (.int d), some (.int i), some (.int j), some (.str v), some (.ref H.length), x12] (H ++ g) ∧ (H ++ g)[H.length]? = some (inst L) ∧ (H ++ g)[r]? = some (.lst (txts L)) ∧ H.length ≤ r ∧ Kinds L ∧ ∀ z ∈ L, z ∈ names := by
  obtain ⟨a, l, ma, ia, ga, kl, sl⟩ := s.item i0 i1
  obtain ⟨b, m, mb, ib, gb, km, sm⟩ := s.item j0 j1
  have kv : Kinds [v] := ⟨fun z hz => by rw [List.mem_singleton] at hz; subst hz; exact kn.word _ hv, List.pairwise_singleton _ _, by simp⟩
  have fl := kinds_few an n6 kl sl
  have fm := kinds_few an n6 km sm
  have sv : ∀ z ∈ [v], z ∈ names := fun z hz => by rw [List.mem_singleton] at hz; subst hz; exact hv
  have he : Out H ((e_call ((kap (prog sh) (n + 40)).fn 32) (a_cons (e_var 6) (a_cons (e_2 o_item (e_var 2) (e_var 8)) (a_cons (e_var 10) (a_nil))))) [some (.ref p), some (.ref N), some (.ref M), some (.ref Q), x4, x5, some (.str w), some (.int d), some (.int i), some (.int j), some (.str v), x11, x12] H) fun z => opP w (z ∈ l) (z ∈ [v]) := by
    have q := by_spec (sh := sh) (n := n + 40 + 3) (x := .ref a) (y := .str v) (by omega) hw (.inl ⟨a, rfl, ga⟩) (.inr ⟨v, rfl, kn.word v hv, rfl⟩) (.inl ⟨a, rfl⟩) kl kv (by first | omega | (simp; omega))
    simp only [e_call, a_cons, a_nil, e_2, e_var, List.getElem?_cons_zero, List.getElem?_cons_succ, Res.bind_ok, ia, ib]
    exact q
  have hd : ∀ o, ∃ (a b : Nat) (g : Heap), (e_call ((kap (prog sh) (n + 40)).fn 31) (a_cons (e_var 6) (a_cons (e_2 o_item (e_var 3) (e_var 8)) (a_cons (e_lst (a_cons (e_var 10) (a_nil))) (a_nil))))) [some (.ref p), some (.ref N), some (.ref M), some (.ref Q), x4, x5, some (.str w), some (.int d), some (.int i), some (.int j), some (.str v), x11, x12] (H ++ [o]) = callF (prog sh) (n + 40 + 3) 31 [.str w, .ref a, .ref b] (H ++ [o] ++ g) ∧ (H ++ [o] ++ g)[a]? = some (.lst (txts l)) ∧ (H ++ [o] ++ g)[b]? = some (.lst (txts [v])) := by
    intro o
    obtain ⟨c, ic, gc⟩ := (s.app [o]).itemD same i0 ma
    refine ⟨c, (H ++ [o]).length, [.lst (txts [v])], ?_, get_old gc, get_new⟩
    simp only [e_call, a_cons, a_nil, e_2, e_lst, e_var, List.getElem?_cons_zero, List.getElem?_cons_succ, Res.bind_ok, newO, List.length_cons, List.length_nil, show ((0 : Nat) + 1 ≤ LIM) from by decide, if_true, ic]
    rfl
  obtain ⟨L, r, g, e, g1, g2, g3, kL, mL⟩ := par_two (n := n + 40 + 3) (by omega) hw kl kv (by first | omega | (simp; omega)) he hd
  refine ⟨L, r, g, e, g1, g2, g3, kL, fun z hz => ?_⟩
  rcases (mL z).mp hz with ⟨_, q | q⟩ | ⟨_, q, _⟩ | ⟨_, q, _⟩ | ⟨_, ⟨q, _⟩ | ⟨q, _⟩⟩
  · exact sl z q
  · exact sv z q
  · exact sl z q
  · exact sl z q
  · exact sl z q
  · exact sv z q
theorem way2 (s : St p N M Q names k H ms ds) (same : ms.map (·.2) = ds.map (·.2)) (an : Asc names) (n6 : names.length ≤ 6) (kn : Kinds names) (hw : OpT w) (hv : v ∈ names) (i0 : 0 ≤ i) (i1 : i < (ms.length : Int)) (j0 : 0 ≤ j) (j1 : j < (ms.length : Int)) : ∃ L r g, (s_par 11 5 (e_call ((kap (prog sh) (n + 40)).fn 33) (a_cons (e_var 6) (a_cons (e_2 o_item (e_var 2) (e_var 8)) (a_cons (e_var 10) (a_nil))))) (e_call ((kap (prog sh) (n + 40)).fn 31) (a_cons (e_var 6) (a_cons (e_2 o_item (e_var 3) (e_var 8)) (a_cons (e_lst (a_cons (e_var 10) (a_nil))) (a_nil)))))) [some (.ref p), some (.ref N), some (.ref M), some (.ref Q), x4, x5, some (.str w), some (.int d), some (.int i), some (.int j), some (.str v), x11, x12] H = .nx [some (.ref p), some (.ref N), some (.ref M), some (.ref Q), x4, some (.ref r), some (.str w), some (.int d), some (.int i), some (.int j), some (.str v), some (.ref H.length), x12] (H ++ g) ∧ (H ++ g)[H.length]? = some (inst L) ∧ (H ++ g)[r]? = some (.lst (txts L)) ∧ H.length ≤ r ∧ Kinds L ∧ ∀ z ∈ L, z ∈ names := by
  obtain ⟨a, l, ma, ia, ga, kl, sl⟩ := s.item i0 i1
  obtain ⟨b, m, mb, ib, gb, km, sm⟩ := s.item j0 j1
  have kv : Kinds [v] := ⟨fun z hz => by rw [List.mem_singleton] at hz; subst hz; exact kn.word _ hv, List.pairwise_singleton _ _, by simp⟩
  have fl := kinds_few an n6 kl sl
  have fm := kinds_few an n6 km sm
  have sv : ∀ z ∈ [v], z ∈ names := fun z hz => by rw [List.mem_singleton] at hz; subst hz; exact hv
  have he : Out H ((e_call ((kap (prog sh) (n + 40)).fn 33) (a_cons (e_var 6) (a_cons (e_2 o_item (e_var 2) (e_var 8)) (a_cons (e_var 10) (a_nil))))) [some (.ref p), some (.ref N), some (.ref M), some (.ref Q), x4, x5, some (.str w), some (.int d), some (.int i), some (.int j), some (.str v), x11, x12] H) fun z => opP w (z ∈ l) (z ∈ [v]) := by
    have q := placed_spec (sh := sh) (n := n + 40 + 3) (y := .str v) (by omega) hw ga (.inr ⟨v, rfl, kn.word v hv, rfl⟩) kl kv (by first | omega | (simp; omega))
    simp only [e_call, a_cons, a_nil, e_2, e_var, List.getElem?_cons_zero, List.getElem?_cons_succ, Res.bind_ok, ia, ib]
    exact q
  have hd : ∀ o, ∃ (a b : Nat) (g : Heap), (e_call ((kap (prog sh) (n + 40)).fn 31) (a_cons (e_var 6) (a_cons (e_2 o_item (e_var 3) (e_var 8)) (a_cons (e_lst (a_cons (e_var 10) (a_nil))) (a_nil))))) [some (.ref p), some (.ref N), some (.ref M), some (.ref Q), x4, x5, some (.str w), some (.int d), some (.int i), some (.int j), some (.str v), x11, x12] (H ++ [o]) = callF (prog sh) (n + 40 + 3) 31 [.str w, .ref a, .ref b] (H ++ [o] ++ g) ∧ (H ++ [o] ++ g)[a]? = some (.lst (txts l)) ∧ (H ++ [o] ++ g)[b]? = some (.lst (txts [v])) := by
    intro o
    obtain ⟨c, ic, gc⟩ := (s.app [o]).itemD same i0 ma
    refine ⟨c, (H ++ [o]).length, [.lst (txts [v])], ?_, get_old gc, get_new⟩
    simp only [e_call, a_cons, a_nil, e_2, e_lst, e_var, List.getElem?_cons_zero, List.getElem?_cons_succ, Res.bind_ok, newO, List.length_cons, List.length_nil, show ((0 : Nat) + 1 ≤ LIM) from by decide, if_true, ic]
    rfl
  obtain ⟨L, r, g, e, g1, g2, g3, kL, mL⟩ := par_two (n := n + 40 + 3) (by omega) hw kl kv (by first | omega | (simp; omega)) he hd
  refine ⟨L, r, g, e, g1, g2, g3, kL, fun z hz => ?_⟩
  rcases (mL z).mp hz with ⟨_, q | q⟩ | ⟨_, q, _⟩ | ⟨_, q, _⟩ | ⟨_, ⟨q, _⟩ | ⟨q, _⟩⟩
  · exact sl z q
  · exact sv z q
  · exact sl z q
  · exact sl z q
  · exact sl z q
  · exact sv z q
theorem way3 (s : St p N M Q names k H ms ds) (same : ms.map (·.2) = ds.map (·.2)) (an : Asc names) (n6 : names.length ≤ 6) (kn : Kinds names) (hw : OpT w) (hv : v ∈ names) (i0 : 0 ≤ i) (i1 : i < (ms.length : Int)) (j0 : 0 ≤ j) (j1 : j < (ms.length : Int)) : ∃ L r g, (s_par 11 5 (e_call ((kap (prog sh) (n + 40)).fn 33) (a_cons (e_var 6) (a_cons (e_2 o_item (e_var 2) (e_var 8)) (a_cons (e_2 o_item (e_var 2) (e_var 9)) (a_nil))))) (e_call ((kap (prog sh) (n + 40)).fn 31) (a_cons (e_var 6) (a_cons (e_2 o_item (e_var 3) (e_var 8)) (a_cons (e_2 o_item (e_var 3) (e_var 9)) (a_nil)))))) [some (.ref p), some (.ref N), some (.ref M), some (.ref Q), x4, x5, some (.str w), some (.int d), some (.int i), some (.int j), some (.str v), x11, x12] H = .nx [some (.ref p), some (.ref N), some (.ref M), some (.ref Q), x4, some (.ref r), some (.str w), some (.int d), some (.int i), some (.int j), some (.str v), some (.ref H.length), x12] (H ++ g) ∧ (H ++ g)[H.length]? = some (inst L) ∧ (H ++ g)[r]? = some (.lst (txts L)) ∧ H.length ≤ r ∧ Kinds L ∧ ∀ z ∈ L, z ∈ names := by
  obtain ⟨a, l, ma, ia, ga, kl, sl⟩ := s.item i0 i1
  obtain ⟨b, m, mb, ib, gb, km, sm⟩ := s.item j0 j1
  have kv : Kinds [v] := ⟨fun z hz => by rw [List.mem_singleton] at hz; subst hz; exact kn.word _ hv, List.pairwise_singleton _ _, by simp⟩
  have fl := kinds_few an n6 kl sl
  have fm := kinds_few an n6 km sm
  have sv : ∀ z ∈ [v], z ∈ names := fun z hz => by rw [List.mem_singleton] at hz; subst hz; exact hv
  have he : Out H ((e_call ((kap (prog sh) (n + 40)).fn 33) (a_cons (e_var 6) (a_cons (e_2 o_item (e_var 2) (e_var 8)) (a_cons (e_2 o_item (e_var 2) (e_var 9)) (a_nil))))) [some (.ref p), some (.ref N), some (.ref M), some (.ref Q), x4, x5, some (.str w), some (.int d), some (.int i), some (.int j), some (.str v), x11, x12] H) fun z => opP w (z ∈ l) (z ∈ m) := by
    have q := placed_spec (sh := sh) (n := n + 40 + 3) (y := .ref b) (by omega) hw ga (.inl ⟨b, rfl, gb⟩) kl km (by first | omega | (simp; omega))
    simp only [e_call, a_cons, a_nil, e_2, e_var, List.getElem?_cons_zero, List.getElem?_cons_succ, Res.bind_ok, ia, ib]
    exact q
  have hd : ∀ o, ∃ (a b : Nat) (g : Heap), (e_call ((kap (prog sh) (n + 40)).fn 31) (a_cons (e_var 6) (a_cons (e_2 o_item (e_var 3) (e_var 8)) (a_cons (e_2 o_item (e_var 3) (e_var 9)) (a_nil))))) [some (.ref p), some (.ref N), some (.ref M), some (.ref Q), x4, x5, some (.str w), some (.int d), some (.int i), some (.int j), some (.str v), x11, x12] (H ++ [o]) = callF (prog sh) (n + 40 + 3) 31 [.str w, .ref a, .ref b] (H ++ [o] ++ g) ∧ (H ++ [o] ++ g)[a]? = some (.lst (txts l)) ∧ (H ++ [o] ++ g)[b]? = some (.lst (txts m)) := by
    intro o
    obtain ⟨c, ic, gc⟩ := (s.app [o]).itemD same i0 ma
    obtain ⟨e, ie, ge⟩ := (s.app [o]).itemD same j0 mb
    refine ⟨c, e, [], ?_, by simpa using gc, by simpa using ge⟩
    simp only [e_call, a_cons, a_nil, e_2, e_var, List.getElem?_cons_zero, List.getElem?_cons_succ, Res.bind_ok, ic, ie, List.append_nil]
  obtain ⟨L, r, g, e, g1, g2, g3, kL, mL⟩ := par_two (n := n + 40 + 3) (by omega) hw kl km (by first | omega | (simp; omega)) he hd
  refine ⟨L, r, g, e, g1, g2, g3, kL, fun z hz => ?_⟩
  rcases (mL z).mp hz with ⟨_, q | q⟩ | ⟨_, q, _⟩ | ⟨_, q, _⟩ | ⟨_, ⟨q, _⟩ | ⟨q, _⟩⟩
  · exact sl z q
  · exact sm z q
  · exact sl z q
  · exact sl z q
  · exact sl z q
  · exact sm z q
theorem way4 (s : St p N M Q names k H ms ds) (same : ms.map (·.2) = ds.map (·.2)) (an : Asc names) (n6 : names.length ≤ 6) (kn : Kinds names) (hw : OpT w) (hv : v ∈ names) (i0 : 0 ≤ i) (i1 : i < (ms.length : Int)) (j0 : 0 ≤ j) (j1 : j < (ms.length : Int)) : ∃ L r g, (s_par 11 5 (e_call ((kap (prog sh) (n + 40)).fn 32) (a_cons (e_var 6) (a_cons (e_2 o_item (e_var 2) (e_var 8)) (a_cons (e_2 o_item (e_var 2) (e_var 9)) (a_nil))))) (e_call ((kap (prog sh) (n + 40)).fn 31) (a_cons (e_var 6) (a_cons (e_2 o_item (e_var 3) (e_var 8)) (a_cons (e_2 o_item (e_var 3) (e_var 9)) (a_nil)))))) [some (.ref p), some (.ref N), some (.ref M), some (.ref Q), x4, x5, some (.str w), some (.int d), some (.int i), some (.int j), some (.str v), x11, x12] H = .nx [some (.ref p), some (.ref N), some (.ref M), some (.ref Q), x4, some (.ref r), some (.str w), some (.int d), some (.int i), some (.int j), some (.str v), some (.ref H.length), x12] (H ++ g) ∧ (H ++ g)[H.length]? = some (inst L) ∧ (H ++ g)[r]? = some (.lst (txts L)) ∧ H.length ≤ r ∧ Kinds L ∧ ∀ z ∈ L, z ∈ names := by
  obtain ⟨a, l, ma, ia, ga, kl, sl⟩ := s.item i0 i1
  obtain ⟨b, m, mb, ib, gb, km, sm⟩ := s.item j0 j1
  have kv : Kinds [v] := ⟨fun z hz => by rw [List.mem_singleton] at hz; subst hz; exact kn.word _ hv, List.pairwise_singleton _ _, by simp⟩
  have fl := kinds_few an n6 kl sl
  have fm := kinds_few an n6 km sm
  have sv : ∀ z ∈ [v], z ∈ names := fun z hz => by rw [List.mem_singleton] at hz; subst hz; exact hv
  have he : Out H ((e_call ((kap (prog sh) (n + 40)).fn 32) (a_cons (e_var 6) (a_cons (e_2 o_item (e_var 2) (e_var 8)) (a_cons (e_2 o_item (e_var 2) (e_var 9)) (a_nil))))) [some (.ref p), some (.ref N), some (.ref M), some (.ref Q), x4, x5, some (.str w), some (.int d), some (.int i), some (.int j), some (.str v), x11, x12] H) fun z => opP w (z ∈ l) (z ∈ m) := by
    have q := by_spec (sh := sh) (n := n + 40 + 3) (x := .ref a) (y := .ref b) (by omega) hw (.inl ⟨a, rfl, ga⟩) (.inl ⟨b, rfl, gb⟩) (.inl ⟨a, rfl⟩) kl km (by first | omega | (simp; omega))
    simp only [e_call, a_cons, a_nil, e_2, e_var, List.getElem?_cons_zero, List.getElem?_cons_succ, Res.bind_ok, ia, ib]
    exact q
  have hd : ∀ o, ∃ (a b : Nat) (g : Heap), (e_call ((kap (prog sh) (n + 40)).fn 31) (a_cons (e_var 6) (a_cons (e_2 o_item (e_var 3) (e_var 8)) (a_cons (e_2 o_item (e_var 3) (e_var 9)) (a_nil))))) [some (.ref p), some (.ref N), some (.ref M), some (.ref Q), x4, x5, some (.str w), some (.int d), some (.int i), some (.int j), some (.str v), x11, x12] (H ++ [o]) = callF (prog sh) (n + 40 + 3) 31 [.str w, .ref a, .ref b] (H ++ [o] ++ g) ∧ (H ++ [o] ++ g)[a]? = some (.lst (txts l)) ∧ (H ++ [o] ++ g)[b]? = some (.lst (txts m)) := by
    intro o
    obtain ⟨c, ic, gc⟩ := (s.app [o]).itemD same i0 ma
    obtain ⟨e, ie, ge⟩ := (s.app [o]).itemD same j0 mb
    refine ⟨c, e, [], ?_, by simpa using gc, by simpa using ge⟩
    simp only [e_call, a_cons, a_nil, e_2, e_var, List.getElem?_cons_zero, List.getElem?_cons_succ, Res.bind_ok, ic, ie, List.append_nil]
  obtain ⟨L, r, g, e, g1, g2, g3, kL, mL⟩ := par_two (n := n + 40 + 3) (by omega) hw kl km (by first | omega | (simp; omega)) he hd
  refine ⟨L, r, g, e, g1, g2, g3, kL, fun z hz => ?_⟩
  rcases (mL z).mp hz with ⟨_, q | q⟩ | ⟨_, q, _⟩ | ⟨_, q, _⟩ | ⟨_, ⟨q, _⟩ | ⟨q, _⟩⟩
  · exact sl z q
  · exact sm z q
  · exact sl z q
  · exact sl z q
  · exact sl z q
  · exact sm z q
theorem step_C (s : St p N M Q names k H ms ds) (same : ms.map (·.2) = ds.map (·.2)) (an : Asc names) (n6 : names.length ≤ 6) (kn : Kinds names) (hw : OpT w) (hv : v ∈ names) (i0 : 0 ≤ i) (i1 : i < (ms.length : Int)) (j0 : 0 ≤ j) (j1 : j < (ms.length : Int)) : ∃ L r g, b_C (kap (prog sh) (n + 40)) [some (.ref p), some (.ref N), some (.ref M), some (.ref Q), x4, x5, some (.str w), some (.int d), some (.int i), some (.int j), some (.str v), x11, x12] H = .nx [some (.ref p), some (.ref N), some (.ref M), some (.ref Q), x4, some (.ref r), some (.str w), some (.int d), some (.int i), some (.int j), some (.str v), some (.ref H.length), x12] (H ++ g) ∧ (H ++ g)[H.length]? = some (inst L) ∧ (H ++ g)[r]? = some (.lst (txts L)) ∧ H.length ≤ r ∧ Kinds L ∧ ∀ z ∈ L, z ∈ names := by
  have tst : ∀ (c : Int) (f g : SS), s_if (t_b (e_2 o_eq (e_var 7) (e_c (.int c)))) f g [some (.ref p), some (.ref N), some (.ref M), some (.ref Q), x4, x5, some (.str w), some (.int d), some (.int i), some (.int j), some (.str v), x11, x12] H = if d = c then f [some (.ref p), some (.ref N), some (.ref M), some (.ref Q), x4, x5, some (.str w), some (.int d), some (.int i), some (.int j), some (.str v), x11, x12] H else g [some (.ref p), some (.ref N), some (.ref M), some (.ref Q), x4, x5, some (.str w), some (.int d), some (.int i), some (.int j), some (.str v), x11, x12] H := fun c f g => by
    by_cases e : d = c
    · simp [s_if, t_b, e_2, e_var, e_c, eq_int, e, asB, liftO_some, gcB_self]
    · simp [s_if, t_b, e_2, e_var, e_c, eq_int, e, asB, liftO_some, gcB_self]
  unfold b_C
  rw [tst]
  by_cases d0 : d = 0
  · rw [if_pos d0]; exact way0 s same an n6 kn hw hv i0 i1 j0 j1
  rw [if_neg d0, tst]
  by_cases d1 : d = 1
  · rw [if_pos d1]; exact way1 s same an n6 kn hw hv i0 i1 j0 j1
  rw [if_neg d1, tst]
  by_cases d2 : d = 2
  · rw [if_pos d2]; exact way2 s same an n6 kn hw hv i0 i1 j0 j1
  rw [if_neg d2, tst]
  by_cases d3 : d = 3
  · rw [if_pos d3]; exact way3 s same an n6 kn hw hv i0 i1 j0 j1
  rw [if_neg d3]; exact way4 s same an n6 kn hw hv i0 i1 j0 j1
end
end K01
end

section
set_option linter.all false
set_option autoImplicit false
set_option maxRecDepth 100000
set_option maxHeartbeats 1000000
namespace K01
open IR
variable {sh : PD → Txt}
section
variable {n p N M Q k : Nat} {names : List Txt} {H : Heap} {ms ds : Ps}
def yM (H : Heap) : D → D
  | .ref a => match H[a]? with
    | some (.ins _ ((_, t) :: _)) => t
    | _ => .non
  | _ => .non
def yD (H : Heap) : D → D
  | .ref a => match H[a]? with
    | some (.lst ds) => .tup ds
    | _ => .non
  | _ => .non
theorem lc_kinds {σ : Env} (s : St p N M Q names k H ms ds) (h2 : σ[2]? = some (some (.ref M))) (hl : 12 < σ.length) (few : ms.length < 1000) :
    e_lc (i_list (e_var 2)) (g_name 12) (t_yes) (e_prop (kap (prog sh) (n + 40)) 0 9 (e_var 12)) [12] σ H = .ok (.ref H.length) (H ++ [.lst ((ms.map (·.2)).map fun L => .tup (txts L))]) := by
  have lc := lc_all (it := i_list (e_var 2)) (g := g_name 12) (e := e_prop (kap (prog sh) (n + 40)) 0 9 (e_var 12)) (own := [12]) (σ := σ) (h := H) (src := ⟨refs ms, [(M, .lst (refs ms))]⟩) (yM H)
    (by simp [i_list, e_var, h2, s.made]) (fun acc => by simp [Src.ok, get_old s.made]) (by simp only [refs, List.length_map, LIM]; omega) (fun x hx acc => by
      obtain ⟨q, hq, rfl⟩ := List.mem_map.mp hx
      have e := s.im q hq
      have e2 := get_old (g := [.lst acc]) e
      refine ⟨_, rfl, ?_⟩
      have ks := kinds_spec (sh := sh) (n := n + 40 + 2) (by omega) e2
      have y : yM H (.ref q.1) = .tup (txts q.2) := by simp only [yM, e, inst]
      rw [y]
      have v : e_var 12 ((wipe σ [12]).set 12 (some (.ref q.1))) (H ++ [.lst acc]) = .ok (.ref q.1) (H ++ [.lst acc]) := by simp [e_var, wipe, hl]
      simp only [e_prop, v, Res.bind_ok, cls_inst e2, if_true, ks, noX_ok]
      exact gc_self (pures_strs _))
  rw [lc]
  congr 2
  simp only [refs, List.map_map, List.cons.injEq, and_true, LO.lst.injEq]
  refine List.map_congr_left fun q hq => ?_
  simp only [Function.comp_apply, yM, s.im q hq, inst]
theorem lc_tups {σ : Env} (s : St p N M Q names k H ms ds) (h3 : σ[3]? = some (some (.ref Q))) (hl : 12 < σ.length) (few : ds.length < 1000) :
    e_lc (i_list (e_var 3)) (g_name 12) (t_yes) (e_call b_tuple (a_cons (e_var 12) (a_nil))) [12] σ H = .ok (.ref H.length) (H ++ [.lst ((ds.map (·.2)).map fun L => .tup (txts L))]) := by
  have lc := lc_all (it := i_list (e_var 3)) (g := g_name 12) (e := e_call b_tuple (a_cons (e_var 12) (a_nil))) (own := [12]) (σ := σ) (h := H) (src := ⟨refs ds, [(Q, .lst (refs ds))]⟩) (yD H)
    (by simp [i_list, e_var, h3, s.dues]) (fun acc => by simp [Src.ok, get_old s.dues]) (by simp only [refs, List.length_map, LIM]; omega) (fun x hx acc => by
      obtain ⟨q, hq, rfl⟩ := List.mem_map.mp hx
      have e := (s.id q hq).1
      have e2 := get_old (g := [.lst acc]) e
      refine ⟨_, rfl, ?_⟩
      have y : yD H (.ref q.1) = .tup (txts q.2) := by simp only [yD, e]
      rw [y]
      have v : e_var 12 ((wipe σ [12]).set 12 (some (.ref q.1))) (H ++ [.lst acc]) = .ok (.ref q.1) (H ++ [.lst acc]) := by simp [e_var, wipe, hl]
      simp only [e_call, a_cons, a_nil, v, Res.bind_ok, b_tuple, items, e2, Option.map_some, liftO_some]
      exact gc_self (pures_strs _))
  rw [lc]
  congr 2
  simp only [refs, List.map_map, List.cons.injEq, and_true, LO.lst.injEq]
  refine List.map_congr_left fun q hq => ?_
  simp only [Function.comp_apply, yD, (s.id q hq).1]
abbrev b_G (κ : Kap) : SS := s_if (t_b (e_2 o_ne (e_call (b_repr κ) (a_cons (e_lc (i_list (e_var 2)) (g_name 12) (t_yes) (e_prop κ 0 9 (e_var 12)) [12]) (a_nil))) (e_call (b_repr κ) (a_cons (e_lc (i_list (e_var 3)) (g_name 12) (t_yes) (e_call b_tuple (a_cons (e_var 12) (a_nil))) [12]) (a_nil))))) (s_ret (e_c (.bl false))) (s_nil)
theorem step_G0 {σ : Env} (s : St p N M Q names k H ms ds) (same : ms.map (·.2) = ds.map (·.2)) (an : Asc names) (n6 : names.length ≤ 6) (h2 : σ[2]? = some (some (.ref M))) (h3 : σ[3]? = some (some (.ref Q))) (hl : 12 < σ.length) (few : ms.length ≤ 12) :
    b_G (kap (prog sh) (n + 40)) σ H = .nx σ H := by
  have dl : ds.length = ms.length := by have := congrArg List.length same; simpa using this.symm
  have l1 := lc_kinds (sh := sh) (n := n) s h2 hl (by omega)
  have kf : ∀ L ∈ ms.map (·.2), L.length ≤ 6 ∧ ∀ w ∈ L, w.length ≤ 8 := fun L hL => by
    obtain ⟨q, hq, rfl⟩ := List.mem_map.mp hL
    have := s.km q hq
    exact ⟨kinds_few an n6 this.1 this.2, fun w hw => (this.1.word w hw).len.2⟩
  have r1 := repr_rows (κ := kap (prog sh) (n + 40)) (h := H ++ [.lst ((ms.map (·.2)).map fun L => .tup (txts L))]) (k := H.length) (Ls := ms.map (·.2)) get_new (by simpa using few) kf
  have s' := s.app [.lst ((ms.map (·.2)).map fun L => .tup (txts L))]
  have l2 := lc_tups (σ := σ) s' h3 hl (by omega)
  rw [← same] at l2
  have r2 := repr_rows (κ := kap (prog sh) (n + 40)) (h := H ++ [.lst ((ms.map (·.2)).map fun L => .tup (txts L))] ++ [.lst ((ms.map (·.2)).map fun L => .tup (txts L))]) (k := (H ++ [LO.lst ((ms.map (·.2)).map fun L => .tup (txts L))]).length) (Ls := ms.map (·.2)) get_new (by simpa using few) kf
  have t : (t_b (e_2 o_ne (e_call (b_repr (kap (prog sh) (n + 40))) (a_cons (e_lc (i_list (e_var 2)) (g_name 12) (t_yes) (e_prop (kap (prog sh) (n + 40)) 0 9 (e_var 12)) [12]) (a_nil))) (e_call (b_repr (kap (prog sh) (n + 40))) (a_cons (e_lc (i_list (e_var 3)) (g_name 12) (t_yes) (e_call b_tuple (a_cons (e_var 12) (a_nil))) [12]) (a_nil))))) σ H = .ok false (H ++ [.lst ((ms.map (·.2)).map fun L => .tup (txts L)), .lst ((ms.map (·.2)).map fun L => .tup (txts L))]) := by
    simp only [t_b, e_2, e_call, a_cons, a_nil]
    rw [l1]
    simp only [Res.bind_ok, r1]
    rw [l2]
    simp only [Res.bind_ok, r2]
    simp [o_ne, eqD, rd, PD.eqv, liftO_some, okB, asB]
  unfold b_G
  simp only [s_if, t, gcB_app, Res.to_ok, Bool.false_eq_true, if_false, s_nil]
abbrev b_H (κ : Kap) : SS := s_if (t_not (t_e (e_call (κ.fn 34) (a_cons (e_2 o_item (e_var 2) (e_var 8)) (a_cons (e_2 o_item (e_var 2) (e_var 9)) (a_cons (e_2 o_item (e_var 3) (e_var 8)) (a_cons (e_2 o_item (e_var 3) (e_var 9)) (a_nil)))))))) (s_ret (e_c (.bl false))) (s_nil)
abbrev b_I (κ : Kap) : SS := s_if (t_b (e_2 o_ne (e_call (b_repr κ) (a_cons (e_lst (a_cons (e_2 (o_ownIn κ 0 11) (e_var 10) (e_var 11)) (a_cons (e_call (o_low κ 0 12) (a_cons (e_var 11) (a_nil))) (a_cons (e_call (b_own (o_low κ 0 13)) (a_cons (e_var 11) (a_nil))) (a_nil))))) (a_nil))) (e_call (b_repr κ) (a_cons (e_lst (a_cons (e_2 o_in (e_var 10) (e_var 5)) (a_cons (e_call b_len (a_cons (e_var 5) (a_nil))) (a_cons (e_2 o_gt (e_call b_len (a_cons (e_var 5) (a_nil))) (e_c (.int 0))) (a_nil))))) (a_nil))))) (s_ret (e_c (.bl false))) (s_nil)
theorem step_H {i j : Int} {x0 x1 x4 x5 x6 x7 x10 x11 x12 : Option D} (s : St p N M Q names k H ms ds) (same : ms.map (·.2) = ds.map (·.2)) (i0 : 0 ≤ i) (i1 : i < (ms.length : Int)) (j0 : 0 ≤ j) (j1 : j < (ms.length : Int)) :
    b_H (kap (prog sh) (n + 40)) [x0, x1, some (.ref M), some (.ref Q), x4, x5, x6, x7, some (.int i), some (.int j), x10, x11, x12] H = .nx [x0, x1, some (.ref M), some (.ref Q), x4, x5, x6, x7, some (.int i), some (.int j), x10, x11, x12] H := by
  obtain ⟨a, l, ma, ia, ga, kl, sl⟩ := s.item i0 i1
  obtain ⟨b, m, mb, ib, gb, km, sm⟩ := s.item j0 j1
  obtain ⟨c, ic, gc⟩ := s.itemD same i0 ma
  obtain ⟨d, id, gd⟩ := s.itemD same j0 mb
  have cs := compared_spec (sh := sh) (n := n + 40 + 3) (by omega) ga gb gc gd kl.few km.few
  unfold b_H
  simp only [s_if, t_not, t_e, e_call, a_cons, a_nil, e_2, e_var, List.getElem?_cons_zero, List.getElem?_cons_succ, Res.bind_ok, ia, ib, ic, id, cs, truth, liftO_some, Bool.not_true, gcB_self, Res.to_ok, Bool.false_eq_true, if_false, s_nil]
theorem step_I {v : Txt} {L : List Txt} {t r : Nat} {x0 x1 x2 x3 x4 x6 x7 x8 x9 x12 : Option D} (ht : H[t]? = some (inst L)) (hr : H[r]? = some (.lst (txts L))) (kL : Kinds L) :
    b_I (kap (prog sh) (n + 40)) [x0, x1, x2, x3, x4, some (.ref r), x6, x7, x8, x9, some (.str v), some (.ref t), x12] H = .nx [x0, x1, x2, x3, x4, some (.ref r), x6, x7, x8, x9, some (.str v), some (.ref t), x12] H := by
  have c1 := contains_spec (sh := sh) (n := n + 40 + 3) (w := v) (by omega) ht
  have c2 := abs_spec (sh := sh) (n := n + 40) (by omega) ht
  have c3 := bool_spec (sh := sh) (n := n + 40) (by omega) ht
  generalize hds : [D.bl (decide (v ∈ L)), .int L.length, .bl (!L.isEmpty)] = xs
  have e1 : e_lst (a_cons (e_2 (o_ownIn (kap (prog sh) (n + 40)) 0 11) (e_var 10) (e_var 11)) (a_cons (e_call (o_low (kap (prog sh) (n + 40)) 0 12) (a_cons (e_var 11) (a_nil))) (a_cons (e_call (b_own (o_low (kap (prog sh) (n + 40)) 0 13)) (a_cons (e_var 11) (a_nil))) (a_nil)))) [x0, x1, x2, x3, x4, some (.ref r), x6, x7, x8, x9, some (.str v), some (.ref t), x12] H = .ok (.ref H.length) (H ++ [.lst xs]) := by
    rw [← hds]
    simp [e_lst, a_cons, a_nil, e_2, e_call, e_var, o_ownIn, cls_inst ht, c1, c2, c3, asB, liftO_some, okB, o_low, b_own, LIM, newO]
  have gI : isIn (H ++ [.lst xs]) (.str v) (.ref r) = some (decide (v ∈ L)) := isIn_ref (get_old hr)
  have ln : b_len [.ref r] (H ++ [.lst xs]) = .ok (.int L.length) (H ++ [.lst xs]) := by
    have := len_ref (get_old (g := [LO.lst xs]) hr)
    simpa using this
  have pos : decide ((0 : Int) < L.length) = !L.isEmpty := by cases L <;> simp
  have e2 : e_lst (a_cons (e_2 o_in (e_var 10) (e_var 5)) (a_cons (e_call b_len (a_cons (e_var 5) (a_nil))) (a_cons (e_2 o_gt (e_call b_len (a_cons (e_var 5) (a_nil))) (e_c (.int 0))) (a_nil)))) [x0, x1, x2, x3, x4, some (.ref r), x6, x7, x8, x9, some (.str v), some (.ref t), x12] (H ++ [.lst xs]) = .ok (.ref (H ++ [LO.lst xs]).length) (H ++ [.lst xs] ++ [.lst xs]) := by
    rw [← hds] at gI ln ⊢
    simp only [e_lst, a_cons, a_nil, e_2, e_call, e_var, e_c, List.getElem?_cons_zero, List.getElem?_cons_succ, Res.bind_ok, o_in, gI, liftO_some, okB, ln, o_gt, pos, List.length_cons, List.length_nil, newO]
    rfl
  have rp : ∀ (G : Heap) (q : Nat), G[q]? = some (.lst xs) → b_repr (kap (prog sh) (n + 40)) [.ref q] G = .ok (.str (sh (.list [.bool (decide (v ∈ L)), .int L.length, .bool (!L.isEmpty)]))) G := fun G q e => by
    have rr : rd G DEEP (.ref q) = some (.list [.bool (decide (v ∈ L)), .int L.length, .bool (!L.isEmpty)]) := by
      show (match G[q]? with | some (.lst ds) => (mapO (rd G 59) ds).map PD.list | _ => none) = _
      rw [e, ← hds]; rfl
    have few := kL.few
    have ft : (PD.list [.bool (decide (v ∈ L)), .int L.length, .bool (!L.isEmpty)]).fits = true := by
      have t1 : (L.length : Int).natAbs < 10000000000 := by omega
      have t2 : PD.wt (.list [.bool (decide (v ∈ L)), .int L.length, .bool (!L.isEmpty)]) ≤ 1048576 := by
        simp only [PD.wt, PD.wts]
        split
        · decide
        · rename_i hz
          have : (L.length : Int).natAbs.log2 < 10 := (Nat.log2_lt (by omega)).mpr (by have : (2:Nat)^10 = 1024 := by decide
                                                                                       omega)
          omega
      simp only [PD.fits, PD.tiny, PD.tinys, t1, decide_true, Bool.and_self, t2, Bool.true_or]
    simp only [b_repr, rr, liftO_some, Res.bind_ok, ft, if_true]
    rfl
  have t : (t_b (e_2 o_ne (e_call (b_repr (kap (prog sh) (n + 40))) (a_cons (e_lst (a_cons (e_2 (o_ownIn (kap (prog sh) (n + 40)) 0 11) (e_var 10) (e_var 11)) (a_cons (e_call (o_low (kap (prog sh) (n + 40)) 0 12) (a_cons (e_var 11) (a_nil))) (a_cons (e_call (b_own (o_low (kap (prog sh) (n + 40)) 0 13)) (a_cons (e_var 11) (a_nil))) (a_nil))))) (a_nil))) (e_call (b_repr (kap (prog sh) (n + 40))) (a_cons (e_lst (a_cons (e_2 o_in (e_var 10) (e_var 5)) (a_cons (e_call b_len (a_cons (e_var 5) (a_nil))) (a_cons (e_2 o_gt (e_call b_len (a_cons (e_var 5) (a_nil))) (e_c (.int 0))) (a_nil))))) (a_nil)))))
      [x0, x1, x2, x3, x4, some (.ref r), x6, x7, x8, x9, some (.str v), some (.ref t), x12] H = .ok false (H ++ [.lst xs, .lst xs]) := by
    rw [t_b, e_2, e_call]
    rw [show a_cons (e_lst (a_cons (e_2 (o_ownIn (kap (prog sh) (n + 40)) 0 11) (e_var 10) (e_var 11)) (a_cons (e_call (o_low (kap (prog sh) (n + 40)) 0 12) (a_cons (e_var 11) (a_nil))) (a_cons (e_call (b_own (o_low (kap (prog sh) (n + 40)) 0 13)) (a_cons (e_var 11) (a_nil))) (a_nil))))) a_nil [x0, x1, x2, x3, x4, some (.ref r), x6, x7, x8, x9, some (.str v), some (.ref t), x12] H = .ok [.ref H.length] (H ++ [.lst xs]) from by rw [a_cons, e1]; rfl]
    rw [Res.bind_ok, rp _ _ get_new, Res.bind_ok, e_call]
    rw [show a_cons (e_lst (a_cons (e_2 o_in (e_var 10) (e_var 5)) (a_cons (e_call b_len (a_cons (e_var 5) (a_nil))) (a_cons (e_2 o_gt (e_call b_len (a_cons (e_var 5) (a_nil))) (e_c (.int 0))) (a_nil))))) a_nil [x0, x1, x2, x3, x4, some (.ref r), x6, x7, x8, x9, some (.str v), some (.ref t), x12] (H ++ [.lst xs]) = .ok [.ref (H ++ [LO.lst xs]).length] (H ++ [.lst xs] ++ [.lst xs]) from by rw [a_cons, e2]; rfl]
    rw [Res.bind_ok, rp _ _ get_new, Res.bind_ok]
    simp [o_ne, eqD, rd, PD.eqv, liftO_some, okB, asB]
  unfold b_I
  simp only [s_if, t, gcB_app, Res.to_ok, Bool.false_eq_true, if_false, s_nil]
end
end K01
end

section
set_option linter.all false
set_option autoImplicit false
set_option maxRecDepth 100000
set_option maxHeartbeats 1000000
namespace K01
open IR
variable {sh : PD → Txt}
abbrev l2body (κ : Kap) : SS := (s_cons (s_asg (e_lc (i_list (e_var 1)) (g_name 10) (t_b (e_2 o_eq (e_call (κ.fn 27) (a_cons (e_var 0) (a_cons (e_c (.int 2)) (a_nil)))) (e_c (.int 1)))) (e_var 10) [10]) (g_name 5)) ( s_cons (s_expr (e_lm m_append (e_var 2) (e_call (o_new κ 0 8) (a_cons (e_call b_tuple (a_cons (e_var 5) (a_nil))) (a_nil))))) ( s_expr (e_lm m_append (e_var 3) (e_var 5)))))
abbrev l10body (κ : Kap) : SS := (s_cons (s_par 6 7 (e_call (κ.fn 28) (a_cons (e_var 0) (a_cons (e_lst (a_cons (e_c (.str [124])) (a_cons (e_c (.str [38])) (a_cons (e_c (.str [45])) (a_cons (e_c (.str [94])) (a_nil)))))) (a_nil)))) (e_call (κ.fn 27) (a_cons (e_var 0) (a_cons (e_c (.int 6)) (a_nil))))) ( s_cons (s_par3 8 9 10 (e_call (κ.fn 27) (a_cons (e_var 0) (a_cons (e_call b_len (a_cons (e_var 2) (a_nil))) (a_nil)))) (e_call (κ.fn 27) (a_cons (e_var 0) (a_cons (e_call b_len (a_cons (e_var 2) (a_nil))) (a_nil)))) (e_call (κ.fn 28) (a_cons (e_var 0) (a_cons (e_var 1) (a_nil))))) ( s_cons (s_if (t_b (e_2 o_eq (e_var 7) (e_c (.int 0)))) (s_par 11 5 (e_call (κ.fn 32) (a_cons (e_var 6) (a_cons (e_var 10) (a_cons (e_2 o_item (e_var 2) (e_var 8)) (a_nil))))) (e_call (κ.fn 31) (a_cons (e_var 6) (a_cons (e_lst (a_cons (e_var 10) (a_nil))) (a_cons (e_2 o_item (e_var 3) (e_var 8)) (a_nil)))))) (s_if (t_b (e_2 o_eq (e_var 7) (e_c (.int 1)))) (s_par 11 5 (e_call (κ.fn 32) (a_cons (e_var 6) (a_cons (e_2 o_item (e_var 2) (e_var 8)) (a_cons (e_var 10) (a_nil))))) (e_call (κ.fn 31) (a_cons (e_var 6) (a_cons (e_2 o_item (e_var 3) (e_var 8)) (a_cons (e_lst (a_cons (e_var 10) (a_nil))) (a_nil)))))) (s_if (t_b (e_2 o_eq (e_var 7) (e_c (.int 2)))) (s_par 11 5 (e_call (κ.fn 33) (a_cons (e_var 6) (a_cons (e_2 o_item (e_var 2) (e_var 8)) (a_cons (e_var 10) (a_nil))))) (e_call (κ.fn 31) (a_cons (e_var 6) (a_cons (e_2 o_item (e_var 3) (e_var 8)) (a_cons (e_lst (a_cons (e_var 10) (a_nil))) (a_nil)))))) (s_if (t_b (e_2 o_eq (e_var 7) (e_c (.int 3)))) (s_par 11 5 (e_call (κ.fn 33) (a_cons (e_var 6) (a_cons (e_2 o_item (e_var 2) (e_var 8)) (a_cons (e_2 o_item (e_var 2) (e_var 9)) (a_nil))))) (e_call (κ.fn 31) (a_cons (e_var 6) (a_cons (e_2 o_item (e_var 3) (e_var 8)) (a_cons (e_2 o_item (e_var 3) (e_var 9)) (a_nil)))))) (s_par 11 5 (e_call (κ.fn 32) (a_cons (e_var 6) (a_cons (e_2 o_item (e_var 2) (e_var 8)) (a_cons (e_2 o_item (e_var 2) (e_var 9)) (a_nil))))) (e_call (κ.fn 31) (a_cons (e_var 6) (a_cons (e_2 o_item (e_var 3) (e_var 8)) (a_cons (e_2 o_item (e_var 3) (e_var 9)) (a_nil)))))))))) ( s_cons (s_if (t_not (t_e (e_1 (o_isa sub (.own 0)) (e_var 11)))) (s_ret (e_c (.bl false))) (s_nil)) ( s_cons (s_expr (e_lm m_append (e_var 2) (e_var 11))) ( s_cons (s_expr (e_lm m_append (e_var 3) (e_var 5))) ( s_cons (s_if (t_b (e_2 o_ne (e_call (b_repr κ) (a_cons (e_lc (i_list (e_var 2)) (g_name 12) (t_yes) (e_prop κ 0 9 (e_var 12)) [12]) (a_nil))) (e_call (b_repr κ) (a_cons (e_lc (i_list (e_var 3)) (g_name 12) (t_yes) (e_call b_tuple (a_cons (e_var 12) (a_nil))) [12]) (a_nil))))) (s_ret (e_c (.bl false))) (s_nil)) ( s_cons (s_par 8 9 (e_call (κ.fn 27) (a_cons (e_var 0) (a_cons (e_call b_len (a_cons (e_var 2) (a_nil))) (a_nil)))) (e_call (κ.fn 27) (a_cons (e_var 0) (a_cons (e_call b_len (a_cons (e_var 2) (a_nil))) (a_nil))))) ( s_cons (s_if (t_not (t_e (e_call (κ.fn 34) (a_cons (e_2 o_item (e_var 2) (e_var 8)) (a_cons (e_2 o_item (e_var 2) (e_var 9)) (a_cons (e_2 o_item (e_var 3) (e_var 8)) (a_cons (e_2 o_item (e_var 3) (e_var 9)) (a_nil)))))))) (s_ret (e_c (.bl false))) (s_nil)) ( s_if (t_b (e_2 o_ne (e_call (b_repr κ) (a_cons (e_lst (a_cons (e_2 (o_ownIn κ 0 11) (e_var 10) (e_var 11)) (a_cons (e_call (o_low κ 0 12) (a_cons (e_var 11) (a_nil))) (a_cons (e_call (b_own (o_low κ 0 13)) (a_cons (e_var 11) (a_nil))) (a_nil))))) (a_nil))) (e_call (b_repr κ) (a_cons (e_lst (a_cons (e_2 o_in (e_var 10) (e_var 5)) (a_cons (e_call b_len (a_cons (e_var 5) (a_nil))) (a_cons (e_2 o_gt (e_call b_len (a_cons (e_var 5) (a_nil))) (e_c (.int 0))) (a_nil))))) (a_nil))))) (s_ret (e_c (.bl false))) (s_nil)))))))))))
theorem seq {f g : SS} {σ σ' : Env} {h h' : Heap} (e : f σ h = .nx σ' h') : s_cons f g σ h = g σ' h' := by simp [s_cons, e, Flow.then]
section
variable {n p N M Q k : Nat} {names : List Txt} {H : Heap} {ms ds : Ps}
abbrev env (p N M Q : Nat) (x4 x5 x6 x7 x8 x9 x10 x11 x12 : Option D) : Env := [some (.ref p), some (.ref N), some (.ref M), some (.ref Q), x4, x5, x6, x7, x8, x9, x10, x11, x12]
theorem refs_add (ms : Ps) (t : Nat) (L : List Txt) : refs ms ++ [.ref t] = refs (ms ++ [(t, L)]) := by simp
theorem append_M {σ : Env} {e : SE} {t : Nat} {L : List Txt} {G : Heap} (s : St p N M Q names k G ms ds) (h2 : σ[2]? = some (some (.ref M))) (hM : H[M]? = some (.lst (refs ms))) (he : e σ H = .ok (.ref t) G) (few : ms.length < 1000) :
    s_expr (e_lm m_append (e_var 2) e) σ H = .nx σ (G.set M (.lst (refs ms ++ [.ref t]))) := by
  have gM := s.made
  have lt : (refs ms).length < LIM := by simp only [refs, List.length_map, LIM]; omega
  have ne : LO.lst (refs ms) ≠ .lst (refs ms ++ [.ref t]) := by
    intro e
    have := congrArg (fun o => match o with | LO.lst ds => ds.length | _ => 0) e
    simp at this
  have g : gc H (.ok .non (G.set M (.lst (refs ms ++ [.ref t])))) = .ok .non (G.set M (.lst (refs ms ++ [.ref t]))) := gc_imp hM (get_set gM) (by
    rw [refs_add ms t L]
    exact refs_impure (by simp)) ne
  simp only [s_expr, e_lm, e_var, h2, Res.bind_ok, isLst, hM, if_true, he, m_append, gM, lt, g, Res.to_ok]
theorem append_Q {σ : Env} {j r : Nat} {L : List Txt} (s : St p N M Q names k H ms ds) (h3 : σ[3]? = some (some (.ref Q))) (h5 : σ[5]? = some (some (.ref r))) (few : ds.length < 1000) :
    s_expr (e_lm m_append (e_var 3) (e_var 5)) σ H = .nx σ (H.set Q (.lst (refs ds ++ [.ref r]))) := by
  have gQ := s.dues
  have lt : (refs ds).length < LIM := by simp only [refs, List.length_map, LIM]; omega
  have g : gc H (.ok .non (H.set Q (.lst (refs ds ++ [.ref r])))) = .ok .non (H.set Q (.lst (refs ds ++ [.ref r]))) := gc_len rfl (by simp)
  simp only [s_expr, e_lm, e_var, h3, h5, Res.bind_ok, isLst, gQ, if_true, m_append, lt, g, Res.to_ok]
/-- one of the ten turns -/
theorem turn {x4 x5 x6 x7 x8 x9 x10 x11 x12 : Option D} (s : St p N M Q names k H ms ds) (same : ms.map (·.2) = ds.map (·.2)) (an : Asc names) (n0 : 0 < names.length) (n6 : names.length ≤ 6) (kn : Kinds names) (hk : k < 800000) (m0 : 0 < ms.length) (m12 : ms.length < 12) :
    ∃ y5 y6 y7 y8 y9 y10 y11 H' ms' ds', l10body (kap (prog sh) (n + 40)) (env p N M Q x4 x5 x6 x7 x8 x9 x10 x11 x12) H = .nx (env p N M Q x4 y5 y6 y7 y8 y9 y10 y11 x12) H' ∧ St p N M Q names (k + 7) H' ms' ds' ∧ ms'.map (·.2) = ds'.map (·.2) ∧ ms'.length = ms.length + 1 := by
  obtain ⟨w, d, H1, hw, s1, eA⟩ := step_A (sh := sh) (n := n + 38) s (by omega) (x4 := x4) (x5 := x5) (x6 := x6) (x7 := x7) (x8 := x8) (x9 := x9) (x10 := x10) (x11 := x11) (x12 := x12)
  obtain ⟨i, j, v, H2, i0, i1, j0, j1, hv, s2, eB⟩ := step_B (sh := sh) (n := n + 38) s1 (by omega) m0 (by omega) n0 (by omega) (x4 := x4) (x5 := x5) (x6 := some (.str w)) (x7 := some (.int d)) (x8 := x8) (x9 := x9) (x10 := x10) (x11 := x11) (x12 := x12)
  obtain ⟨L, r, g, eC, gt, gr, hr, kL, sL⟩ := step_C (sh := sh) (n := n) s2 same an n6 kn hw hv i0 i1 j0 j1 (d := d) (x4 := x4) (x5 := x5) (x11 := x11) (x12 := x12)
  have s3 := s2.app g
  have gM := s3.made
  have lM : M < H2.length := get_lt s2.made
  have lQ : Q < H2.length := get_lt s2.dues
  have lp : p < H2.length := by obtain ⟨l, a, _⟩ := s2.pot; exact get_lt a
  have dl : ds.length = ms.length := by have := congrArg List.length same; simpa using this.symm
  -- D
  have eD : s_if (t_not (t_e (e_1 (o_isa sub (.own 0)) (e_var 11)))) (s_ret (e_c (.bl false))) (s_nil) (env p N M Q x4 (some (.ref r)) (some (.str w)) (some (.int d)) (some (.int i)) (some (.int j)) (some (.str v)) (some (.ref H2.length)) x12) (H2 ++ g) = .nx (env p N M Q x4 (some (.ref r)) (some (.str w)) (some (.int d)) (some (.int i)) (some (.int j)) (some (.str v)) (some (.ref H2.length)) x12) (H2 ++ g) := by
    simp [s_if, t_not, t_e, e_1, e_var, o_isa, isa_inst gt, liftO_some, okB, truth, gcB_self, s_nil]
  -- E
  have eE := append_M (e := e_var 11) (t := H2.length) (L := L) (σ := env p N M Q x4 (some (.ref r)) (some (.str w)) (some (.int d)) (some (.int i)) (some (.int j)) (some (.str v)) (some (.ref H2.length)) x12) s3 rfl gM rfl (by omega)
  have s4 := s3.addM gt kL sL
  have gr4 : ((H2 ++ g).set M (.lst (refs ms ++ [.ref H2.length])))[r]? = some (.lst (txts L)) := by rw [List.getElem?_set_ne (by omega)]; exact gr
  have gt4 : ((H2 ++ g).set M (.lst (refs ms ++ [.ref H2.length])))[H2.length]? = some (inst L) := by rw [List.getElem?_set_ne (by omega)]; exact gt
  -- F
  have eF := append_Q (r := r) (j := 0) (L := L) (σ := env p N M Q x4 (some (.ref r)) (some (.str w)) (some (.int d)) (some (.int i)) (some (.int j)) (some (.str v)) (some (.ref H2.length)) x12) s4 rfl rfl (by omega)
  have s5 := s4.addD gr4 (by omega) (by omega) (by omega)
  have same5 : (ms ++ [(H2.length, L)]).map (·.2) = (ds ++ [(r, L)]).map (·.2) := by simp [same]
  have len5 : (ms ++ [(H2.length, L)]).length = ms.length + 1 := by simp
  generalize hH5 : ((H2 ++ g).set M (.lst (refs ms ++ [.ref H2.length]))).set Q (.lst (refs ds ++ [.ref r])) = H5 at eF s5
  have gr5 : H5[r]? = some (.lst (txts L)) := by rw [← hH5, List.getElem?_set_ne (by omega)]; exact gr4
  have gt5 : H5[H2.length]? = some (inst L) := by rw [← hH5, List.getElem?_set_ne (by omega)]; exact gt4
  generalize hms : ms ++ [(H2.length, L)] = ms5 at s5 same5 len5
  generalize hds : ds ++ [(r, L)] = ds5 at s5 same5
  have eG := step_G0 (sh := sh) (n := n) (σ := env p N M Q x4 (some (.ref r)) (some (.str w)) (some (.int d)) (some (.int i)) (some (.int j)) (some (.str v)) (some (.ref H2.length)) x12) s5 same5 an n6 rfl rfl (by simp) (by omega)
  obtain ⟨i', j', H6, i0', i1', j0', j1', s6, k6, eG2⟩ := step_G (sh := sh) (n := n + 38) s5 (by omega) (by omega) (by omega) (x4 := x4) (x5 := some (.ref r)) (x6 := some (.str w)) (x7 := some (.int d)) (x8 := some (.int i)) (x9 := some (.int j)) (x10 := some (.str v)) (x11 := some (.ref H2.length)) (x12 := x12)
  have eH := step_H (sh := sh) (n := n) (x0 := some (.ref p)) (x1 := some (.ref N)) (x4 := x4) (x5 := some (.ref r)) (x6 := some (.str w)) (x7 := some (.int d)) (x10 := some (.str v)) (x11 := some (.ref H2.length)) (x12 := x12) s6 same5 i0' i1' j0' j1'
  have eI := step_I (sh := sh) (n := n) (v := v) (x0 := some (.ref p)) (x1 := some (.ref N)) (x2 := some (.ref M)) (x3 := some (.ref Q)) (x4 := x4) (x6 := some (.str w)) (x7 := some (.int d)) (x8 := some (.int i')) (x9 := some (.int j')) (x12 := x12) (k6 _ _ (by omega) gt5) (k6 _ _ (by omega) gr5) kL
  refine ⟨some (.ref r), some (.str w), some (.int d), some (.int i'), some (.int j'), some (.str v), some (.ref H2.length), H6, ms5, ds5, ?_, s6, same5, len5⟩
  exact (seq eA).trans ((seq eB).trans ((seq eC).trans ((seq eD).trans ((seq eE).trans ((seq eF).trans ((seq eG).trans ((seq eG2).trans ((seq eH).trans eI))))))))
end
end K01
end

section
set_option linter.all false
set_option autoImplicit false
set_option maxRecDepth 100000
set_option maxHeartbeats 1000000
namespace K01
open IR
variable {sh : PD → Txt}
theorem set_self {h : Heap} {p : Nat} {o : LO} (e : h[p]? = some o) : h.set p o = h := by
  obtain ⟨hl, rfl⟩ := List.getElem?_eq_some_iff.mp e
  simp
theorem set_app {h g : Heap} {p : Nat} {o : LO} (hl : p < h.length) : (h ++ g).set p o = h.set p o ++ g := by
  rw [List.set_append_left _ _ hl]
/-- the names -/
theorem names_spec {n p : Nat} {h : Heap} {l : List D} (hp : h[p]? = some (.lst l)) (hl : Pot 0 l) :
    ∃ names l', s_asg (e_call (callF (prog sh) (n + 43) 29) (a_cons (e_lc (i_rng1 (e_c (.int 6))) (g_name 4) (t_yes) (e_call (callF (prog sh) (n + 43) 30) (a_cons (e_var 0) (a_nil))) [4]) (a_nil))) (g_name 1) [some (.ref p), none, none, none, none, none, none, none, none, none, none, none, none] h =
      .nx [some (.ref p), some (.ref h.length), none, none, none, none, none, none, none, none, none, none, none] (h.set p (.lst l') ++ [.lst (txts names)]) ∧ Pot 54 l' ∧ Kinds names ∧ 0 < names.length ∧ names.length ≤ 6 := by
  have pl := get_lt hp
  obtain ⟨h', acc, ⟨ws, l1, rfl, wl, ww, hl1, rfl⟩, lc⟩ := lc_inv (it := i_rng1 (e_c (.int 6))) (g := g_name 4) (t := t_yes) (e := e_call (callF (prog sh) (n + 43) 30) (a_cons (e_var 0) (a_nil))) (own := [4]) (src := ⟨rng 0 6 1, []⟩) (σ := [some (.ref p), none, none, none, none, none, none, none, none, none, none, none, none]) (h := h)
    (fun i h' acc => ∃ ws l1, acc = txts ws ∧ ws.length = i ∧ (∀ w ∈ ws, Word w) ∧ Pot (9 * i) l1 ∧ h' = h.set p (.lst l1))
    (by simp [i_rng1, e_c, B62]) (fun i h' acc ⟨ws, l1, e1, wl, _, _, e2⟩ => by subst e1 e2; exact ⟨by simp, by simp [wl], rfl⟩) (by simp [rng, LIM]) ⟨[], l, rfl, rfl, by simp, hl, (set_self hp).symm⟩
    (fun i x h' acc hx ⟨ws, l1, e1, wl, ww, hl1, e2⟩ => by
      subst e1 e2
      have hi : i < 6 := by have := (List.getElem?_eq_some_iff.mp hx).1; simpa [rng] using this
      have at_ : (h.set p (.lst l1) ++ [.lst (txts ws)])[p]? = some (.lst l1) := get_old (get_set hp)
      obtain ⟨w, l2, e, hl2, hw⟩ := word_spec (sh := sh) (n := n + 43) (by omega) at_ hl1 (by omega)
      rw [set_app (by simpa using pl), set_set] at e
      refine ⟨_, rfl, true, _, gcB_self, by simp, fun _ => ⟨.str w, h.set p (.lst l2), ?_, by simp, ws ++ [w], l2, by simp, by simp [wl], ?_, hl2, rfl⟩⟩
      · have ev : e_call (callF (prog sh) (n + 43) 30) (a_cons (e_var 0) (a_nil)) ((wipe [some (D.ref p), none, none, none, none, none, none, none, none, none, none, none, none] [4]).set 4 (some x)) (h.set p (.lst l1) ++ [.lst (txts ws)]) = .ok (.str w) (h.set p (.lst l2) ++ [.lst (txts ws)]) := by
          simp [wipe, e_call, a_cons, a_nil, e_var, e]
        rw [ev]
        exact gc_len rfl (by simp)
      · intro z hz
        rcases List.mem_append.mp hz with q | q
        · exact ww z q
        · rw [List.mem_singleton] at q; subst q; exact hw)
  have w6 : ws.length = 6 := by rw [wl]; rfl
  obtain ⟨out, eo, oa, om, ol⟩ := ordered_spec (sh := sh) (n := n + 43) (r := h.length) (h := h.set p (.lst l1) ++ [.lst (txts ws)]) (rows := ws) (by omega) (by have := get_new (h := h.set p (.lst l1)) (o := .lst (txts ws)); simpa using this) (by omega)
  have ne : 0 < out.length := by
    have : 0 < ws.length := by omega
    have m := (om ws[0]).mpr (List.getElem_mem this)
    exact List.length_pos_of_mem m
  refine ⟨out, l1, ?_, hl1.mono (by simp [rng]), ⟨fun w hw => ww w ((om w).mp hw), oa, by omega⟩, ne, by omega⟩
  have g : gc h (.ok (.ref (h.set p (.lst l1) ++ [LO.lst (txts ws)]).length) (h.set p (.lst l1) ++ [.lst (txts ws)] ++ [.lst (txts out)])) = .ok (.ref h.length) (h.set p (.lst l1) ++ [.lst (txts out)]) := by
    rw [List.append_assoc]
    exact gc_new_set hl1.pure (by rw [← List.append_assoc]; exact get_new) (by simp) (pures_strs out)
  simp only [s_asg, e_call, a_cons, a_nil]
  rw [lc]
  simp only [Res.bind_ok, eo, g, Res.to_ok, g_name, onlyNx_nx, List.set_cons_succ, List.set_cons_zero]
section
variable {n p N M Q k : Nat} {names : List Txt} {H : Heap} {ms ds : Ps}
/-- some of the names -/
theorem pick {x4 x5 x6 x7 x8 x9 x10 x11 x12 : Option D} (s : St p N M Q names k H ms ds) (n6 : names.length ≤ 6) (hk : k < 800000) :
    ∃ f l', s_asg (e_lc (i_list (e_var 1)) (g_name 10) (t_b (e_2 o_eq (e_call (callF (prog sh) (n + 43) 27) (a_cons (e_var 0) (a_cons (e_c (.int 2)) (a_nil)))) (e_c (.int 1)))) (e_var 10) [10]) (g_name 5) (env p N M Q x4 x5 x6 x7 x8 x9 x10 x11 x12) H =
      .nx (env p N M Q x4 (some (.ref H.length)) x6 x7 x8 x9 x10 x11 x12) (H.set p (.lst l') ++ [.lst (txts f)]) ∧ f.Sublist names ∧ St p N M Q names (k + names.length) (H.set p (.lst l')) ms ds := by
  obtain ⟨l0, a0, p0⟩ := s.pot
  have pl := get_lt a0
  obtain ⟨h', acc, ⟨f, l1, rfl, fl, ff, s1, hl1, rfl⟩, lc⟩ := lc_inv (it := i_list (e_var 1)) (g := g_name 10) (t := t_b (e_2 o_eq (e_call (callF (prog sh) (n + 43) 27) (a_cons (e_var 0) (a_cons (e_c (.int 2)) (a_nil)))) (e_c (.int 1)))) (e := e_var 10) (own := [10]) (src := ⟨txts names, [(N, .lst (txts names))]⟩) (σ := env p N M Q x4 x5 x6 x7 x8 x9 x10 x11 x12) (h := H)
    (fun i h' acc => ∃ f l1, acc = txts f ∧ f.length ≤ i ∧ f.Sublist (names.take i) ∧ St p N M Q names (k + i) h' ms ds ∧ Pot (k + i) l1 ∧ h' = H.set p (.lst l1))
    (by simp [i_list, e_var, s.nam]) (fun i h' acc ⟨f, l1, e1, fl, _, s1, _, e2⟩ => by
      subst e1
      refine ⟨by rw [e2]; simp, by simpa using fl, ?_⟩
      simp [Src.ok, get_old s1.nam]) (by simp only [txts, List.length_map, LIM]; omega) ⟨[], l0, rfl, by simp, by simp, s, p0, (set_self a0).symm⟩
    (fun i x h' acc hx ⟨f, l1, e1, fl, ff, s1, hl1, e2⟩ => by
      subst e1
      have hi : i < names.length := by have := (List.getElem?_eq_some_iff.mp hx).1; simpa [txts] using this
      obtain ⟨w, hw, rfl⟩ : ∃ w, names[i]? = some w ∧ x = .str w := by
        simp only [txts, List.getElem?_map, Option.map_eq_some_iff] at hx
        obtain ⟨w, h1, h2⟩ := hx
        exact ⟨w, h1, h2.symm⟩
      have tk : names.take (i + 1) = names.take i ++ [w] := by rw [List.take_add_one, hw]; rfl
      obtain ⟨d, l2, e, s2, d0, d1, hl2⟩ := (s1.app [.lst (txts f)]).take (sh := sh) (n := n + 43) (u := 2) (by omega) (by omega) (by decide) (by decide)
      have pl' : p < h'.length := by rw [e2]; simpa using pl
      rw [set_app pl'] at e
      have s3 := s1.setP hl2
      have hs : h'.set p (.lst l2) = H.set p (.lst l2) := by rw [e2, set_set]
      refine ⟨_, rfl, decide (d = 1), h'.set p (.lst l2), ?_, fun hf => ⟨f, l2, rfl, by omega, ?_, s3, hl2, hs⟩, fun ht => ⟨.str w, h'.set p (.lst l2), ?_, by rw [e2]; simp, f ++ [w], l2, by simp, by simp; omega, ?_, s3, hl2, hs⟩⟩
      · have ev : t_b (e_2 o_eq (e_call (callF (prog sh) (n + 43) 27) (a_cons (e_var 0) (a_cons (e_c (.int 2)) (a_nil)))) (e_c (.int 1))) ((wipe (env p N M Q x4 x5 x6 x7 x8 x9 x10 x11 x12) [10]).set 10 (some (.str w))) (h' ++ [.lst (txts f)]) = .ok (decide (d = 1)) (h'.set p (.lst l2) ++ [.lst (txts f)]) := by
          simp [t_b, e_2, wipe, e_call, a_cons, a_nil, e_var, e_c, e, eq_int, asB, liftO_some]
        rw [ev]
        exact gcB_len (by simp)
      · rw [tk]; exact ff.trans (List.sublist_append_left _ _)
      · have ev : e_var 10 ((wipe (env p N M Q x4 x5 x6 x7 x8 x9 x10 x11 x12) [10]).set 10 (some (.str w))) (h'.set p (.lst l2) ++ [.lst (txts f)]) = .ok (.str w) (h'.set p (.lst l2) ++ [.lst (txts f)]) := by simp [e_var, wipe]
        rw [ev]
        exact gc_str
      · rw [tk]; exact ff.append (List.Sublist.refl _))
  have il : (Src.mk (txts names) [(N, .lst (txts names))]).items.length = names.length := by simp [txts]
  rw [il] at ff s1 hl1
  refine ⟨f, l1, ?_, by simpa using ff, s1⟩
  have g : gc H (.ok (.ref H.length) (H.set p (.lst l1) ++ [.lst (txts f)])) = .ok (.ref H.length) (H.set p (.lst l1) ++ [.lst (txts f)]) := gc_new_set hl1.pure (by have := get_new (h := H.set p (.lst l1)) (o := .lst (txts f)); simpa using this) (Nat.le_refl _) (pures_strs f)
  simp only [s_asg]
  rw [lc, g]
  rfl
theorem turn1 {x4 x5 x6 x7 x8 x9 x10 x11 x12 : Option D} (s : St p N M Q names k H ms ds) (same : ms.map (·.2) = ds.map (·.2)) (n6 : names.length ≤ 6) (kn : Kinds names) (hk : k < 700000) (m12 : ms.length < 12) :
    ∃ y5 H' ms' ds', l2body (kap (prog sh) (n + 40)) (env p N M Q x4 x5 x6 x7 x8 x9 x10 x11 x12) H = .nx (env p N M Q x4 y5 x6 x7 x8 x9 x10 x11 x12) H' ∧ St p N M Q names (k + names.length) H' ms' ds' ∧ ms'.map (·.2) = ds'.map (·.2) ∧ ms'.length = ms.length + 1 := by
  obtain ⟨f, l', eP, fs, s1⟩ := pick (sh := sh) (n := n) s n6 (by omega) (x4 := x4) (x5 := x5) (x6 := x6) (x7 := x7) (x8 := x8) (x9 := x9) (x10 := x10) (x11 := x11) (x12 := x12)
  have kf : Kinds f := ⟨fun w hw => kn.word w (fs.subset hw), kn.asc.sublist fs, by have := fs.length_le; omega⟩
  have lM : M < H.length := get_lt s.made
  have lQ : Q < H.length := get_lt s.dues
  have lp : p < H.length := by obtain ⟨l, a, _⟩ := s.pot; exact get_lt a
  have dl : ds.length = ms.length := by have := congrArg List.length same; simpa using this.symm
  have s2 := s1.app [.lst (txts f)]
  have at_ : (H.set p (.lst l') ++ [.lst (txts f)])[H.length]? = some (.lst (txts f)) := by have := get_new (h := H.set p (.lst l')) (o := .lst (txts f)); simpa using this
  generalize hH1 : H.set p (.lst l') ++ [.lst (txts f)] = H1 at eP s2 at_
  have l1 : H1.length = H.length + 1 := by rw [← hH1]; simp
  have s3 := s2.app [inst f]
  have nw := new_spec (sh := sh) (n := n + 40) (h := H1) (by omega) kf
  have eN : e_call (o_new (kap (prog sh) (n + 40)) 0 8) (a_cons (e_call b_tuple (a_cons (e_var 5) (a_nil))) (a_nil)) (env p N M Q x4 (some (.ref H.length)) x6 x7 x8 x9 x10 x11 x12) H1 = .ok (.ref H1.length) (H1 ++ [inst f]) := by
    simp only [e_call, a_cons, a_nil, e_var, List.getElem?_cons_zero, List.getElem?_cons_succ, Res.bind_ok, b_tuple, items, at_, Option.map_some, liftO_some, nw]
  have eA := append_M (t := H1.length) (L := f) (σ := env p N M Q x4 (some (.ref H.length)) x6 x7 x8 x9 x10 x11 x12) s3 rfl s2.made eN (by omega)
  have s4 := s3.addM get_new kf fun z hz => fs.subset hz
  have gr4 : ((H1 ++ [inst f]).set M (.lst (refs ms ++ [.ref H1.length])))[H.length]? = some (.lst (txts f)) := by rw [List.getElem?_set_ne (by omega)]; exact get_old at_
  have eQ := append_Q (r := H.length) (j := 0) (L := f) (σ := env p N M Q x4 (some (.ref H.length)) x6 x7 x8 x9 x10 x11 x12) s4 rfl rfl (by omega)
  have s5 := s4.addD gr4 (by omega) (by omega) (by omega)
  exact ⟨_, _, _, _, (seq eP).trans ((seq eA).trans eQ), s5, by simp [same], by simp⟩
end
theorem rows_spec {n p : Nat} {h : Heap} {l : List D} (hp : h[p]? = some (.lst l)) (hl : Pot 0 l) : ∃ h', callF (prog sh) (n + 44) 35 [.ref p] h = .ok (.bl true) h' := by
  rw [callF_succ _ _ _ _ _ d_law_rows_of rfl]
  have pl := get_lt hp
  obtain ⟨names, l1, e1, hl1, kn, n0, n6⟩ := names_spec (sh := sh) (n := n) hp hl
  have e2 : s_par 2 3 (e_lst (a_nil)) (e_lst (a_nil)) [some (D.ref p), some (.ref h.length), none, none, none, none, none, none, none, none, none, none, none] (h.set p (.lst l1) ++ [.lst (txts names)]) = .nx (env p h.length (h.length + 1) (h.length + 2) none none none none none none none none none) (h.set p (.lst l1) ++ [.lst (txts names), .lst [], .lst []]) := by
    simp [s_par, e_lst, a_nil, newO, LIM]
  have at_ : ∀ (j : Nat) (o : LO), ([.lst (txts names), .lst [], .lst []] : Heap)[j]? = some o → (h.set p (.lst l1) ++ [.lst (txts names), .lst [], .lst []])[h.length + j]? = some o := fun j o e => by
    rw [List.getElem?_append_right (by simp)]
    simpa using e
  have s0 : St p h.length (h.length + 1) (h.length + 2) names 54 (h.set p (.lst l1) ++ [.lst (txts names), .lst [], .lst []]) [] [] :=
    ⟨⟨l1, get_old (get_set hp), hl1⟩, at_ 0 _ rfl, at_ 1 _ rfl, at_ 2 _ rfl, by simp, by simp, by omega, by omega, by omega, by omega, by omega, by omega, by simp⟩
  obtain ⟨σ1, H1, ⟨x4, x5, ms, ds, rfl, s1, same1, len1⟩, f1⟩ := for_inv (it := i_rng1 (e_c (.int 2))) (g := g_name 4) (body := l2body (kap (prog sh) (n + 40))) (src := ⟨rng 0 2 1, []⟩) (σ := env p h.length (h.length + 1) (h.length + 2) none none none none none none none none none) (h := h.set p (.lst l1) ++ [.lst (txts names), .lst [], .lst []]) (h1 := h.set p (.lst l1) ++ [.lst (txts names), .lst [], .lst []])
    (fun i σ H => ∃ x4 x5 ms ds, σ = env p h.length (h.length + 1) (h.length + 2) x4 x5 none none none none none none none ∧ St p h.length (h.length + 1) (h.length + 2) names (54 + names.length * i) H ms ds ∧ ms.map (·.2) = ds.map (·.2) ∧ ms.length = i)
    (by simp [i_rng1, e_c, B62]) (fun _ _ _ _ => rfl) ⟨none, none, [], [], rfl, s0, rfl, rfl⟩
    (fun i x σ H hx ⟨x4, x5, ms, ds, e, s, same, len⟩ => by
      subst e
      have hi : i < 2 := by have := (List.getElem?_eq_some_iff.mp hx).1; simpa [rng] using this
      have kb : 54 + names.length * i < 700000 := by
        have : names.length * i ≤ 6 * 2 := Nat.mul_le_mul n6 (by omega)
        omega
      obtain ⟨y5, H', ms', ds', e, s', same', len'⟩ := turn1 (sh := sh) (n := n) (x4 := some x) (x5 := x5) (x6 := none) (x7 := none) (x8 := none) (x9 := none) (x10 := none) (x11 := none) (x12 := none) s same n6 kn kb (by omega)
      refine ⟨_, rfl, _, H', e, some x, y5, ms', ds', rfl, ?_, same', by omega⟩
      rw [Nat.mul_add, Nat.mul_one, ← Nat.add_assoc]; exact s')
  have len1' : ms.length = 2 := len1
  have kb1 : 54 + names.length * (Src.mk (rng 0 2 1) []).items.length ≤ 66 := by
    have : names.length * (Src.mk (rng 0 2 1) []).items.length ≤ 6 * 2 := Nat.mul_le_mul n6 (by simp [rng])
    omega
  generalize 54 + names.length * (Src.mk (rng 0 2 1) []).items.length = k1 at s1 kb1
  obtain ⟨σ2, H2, ⟨y4, y5, y6, y7, y8, y9, y10, y11, ms2, ds2, rfl, s2, same2, len2⟩, f2⟩ := for_inv (it := i_rng1 (e_c (.int 10))) (g := g_name 4) (body := l10body (kap (prog sh) (n + 40))) (src := ⟨rng 0 10 1, []⟩) (σ := env p h.length (h.length + 1) (h.length + 2) x4 x5 none none none none none none none) (h := H1) (h1 := H1)
    (fun i σ H => ∃ x4 x5 x6 x7 x8 x9 x10 x11 ms ds, σ = env p h.length (h.length + 1) (h.length + 2) x4 x5 x6 x7 x8 x9 x10 x11 none ∧ St p h.length (h.length + 1) (h.length + 2) names (k1 + 7 * i) H ms ds ∧ ms.map (·.2) = ds.map (·.2) ∧ ms.length = 2 + i)
    (by simp [i_rng1, e_c, B62]) (fun _ _ _ _ => rfl) ⟨_, _, _, _, _, _, _, _, ms, ds, rfl, s1, same1, len1'⟩
    (fun i x σ H hx ⟨x4, x5, x6, x7, x8, x9, x10, x11, ms, ds, e, s, same, len⟩ => by
      subst e
      have hi : i < 10 := by have := (List.getElem?_eq_some_iff.mp hx).1; simpa [rng] using this
      obtain ⟨y5, y6, y7, y8, y9, y10, y11, H', ms', ds', e, s', same', len'⟩ := turn (sh := sh) (n := n) (x4 := some x) (x5 := x5) (x6 := x6) (x7 := x7) (x8 := x8) (x9 := x9) (x10 := x10) (x11 := x11) (x12 := none) s same kn.asc n0 n6 kn (by omega) (by omega) (by omega)
      exact ⟨_, rfl, _, H', e, some x, y5, y6, y7, y8, y9, y10, y11, ms', ds', rfl, s', same', by omega⟩)
  have body : b_law_rows_of (kap (prog sh) (n + 40)) [some (.ref p), none, none, none, none, none, none, none, none, none, none, none, none] h = .rt (.bl true) H2 :=
    (seq e1).trans ((seq e2).trans ((seq f1).trans ((seq f2).trans rfl)))
  rw [run_rt rfl (v := .bl true) (h' := H2) body]
  exact gc_ex
theorem law_true (is : List Int) (hl : is.length ≤ 63) : ∃ h', callF (prog sh) 60 36 [.frz (is.map .int)] [] = .ok (.bl true) h' := by
  rw [show (60 : Nat) = 56 + 4 from rfl, callF_succ _ _ _ _ _ d_law rfl]
  generalize hc : (if (1 : Int) < (if (12 : Int) < is.length then 12 else (is.length : Int)) then (if (12 : Int) < is.length then 12 else (is.length : Int)) else 1) = c
  have c1 : 1 ≤ c ∧ c ≤ 12 := by rw [← hc]; split <;> split <;> omega
  have len0 : b_len [.frz (is.map .int)] [] = .ok (.int is.length) [] := by simp [b_len, lenD, liftO_some]
  have it : i_rng1 (e_call b_max (a_cons (e_c (.int 1)) (a_cons (e_call b_min (a_cons (e_call b_len (a_cons (e_var 0) (a_nil))) (a_cons (e_c (.int 12)) (a_nil)))) (a_nil)))) [some (.frz (is.map .int)), none] [] = .ok ⟨rng 0 c.toNat 1, []⟩ [] := by
    have mn : b_min [.int is.length, .int 12] [] = .ok (.int (if (12 : Int) < is.length then 12 else (is.length : Int))) [] := rfl
    have mx : ∀ z : Int, b_max [.int 1, .int z] [] = .ok (.int (if (1 : Int) < z then z else 1)) [] := fun z => rfl
    have b : -B62 ≤ c ∧ c < B62 := by simp only [B62]; omega
    simp only [i_rng1, e_call, a_cons, a_nil, e_c, e_var, List.getElem?_cons_zero, Res.bind_ok, len0, mn, mx, hc]
    rw [if_pos b]
  obtain ⟨σ', h', ⟨x, rfl⟩, f⟩ := for_inv (g := g_name 1) (body := s_if (t_not (t_e (e_call ((kap (prog sh) 56).fn 35) (a_cons (e_call ((kap (prog sh) 56).fn 26) (a_cons (e_var 0) (a_cons (e_var 1) (a_nil)))) (a_nil))))) (s_ret (e_c (.bl false))) (s_nil)) (fun i σ h => ∃ x, σ = [some (.frz (is.map .int)), x]) it (fun _ _ _ _ => rfl) ⟨none, rfl⟩
    (fun i x σ h hx ⟨x0, e⟩ => by
      subst e
      have hi : i < c.toNat := by have := (List.getElem?_eq_some_iff.mp hx).1; simpa [rng] using this
      have ex : x = .int (0 + (i : Nat) * 1) := by
        simp only [rng, List.getElem?_map, Option.map_eq_some_iff] at hx
        obtain ⟨k, hk, rfl⟩ := hx
        rw [List.getElem?_range (by omega)] at hk
        cases hk; rfl
      rw [show (0 + (i : Int) * 1) = (i : Int) by omega] at ex
      subst ex
      obtain ⟨l, ep, hp⟩ := pot_spec (sh := sh) (n := 56 + 3) (h := h) (is := is) (i := i) (by omega) (by omega) (by omega)
      obtain ⟨h2, er⟩ := rows_spec (sh := sh) (n := 15) (p := h.length) (h := h ++ [.lst l]) get_new hp
      have t : (t_not (t_e (e_call ((kap (prog sh) 56).fn 35) (a_cons (e_call ((kap (prog sh) 56).fn 26) (a_cons (e_var 0) (a_cons (e_var 1) (a_nil)))) (a_nil))))) [some (.frz (is.map .int)), some (.int i)] h = .ok false h2 := by
        simp only [t_not, t_e, e_call, a_cons, a_nil, e_var, List.getElem?_cons_zero, List.getElem?_cons_succ, Res.bind_ok, ep, er, truth, liftO_some, Bool.not_true]
      have gB : ∃ h3, gcB h (.ok false h2) = .ok false h3 := by
        by_cases g : agree h h2 = true
        · exact ⟨h2.take h.length, by simp only [gcB, g, if_true]⟩
        · exact ⟨h2, by simp only [gcB, g, if_false, Bool.false_eq_true]⟩
      obtain ⟨h3, gB⟩ := gB
      refine ⟨[some (.frz (is.map .int)), some (.int i)], rfl, [some (.frz (is.map .int)), some (.int i)], h3, ?_, _, rfl⟩
      simp only [s_if, t, gB, Res.to_ok, Bool.false_eq_true, if_false, s_nil])
  have body : b_law (kap (prog sh) 56) [some (.frz (is.map .int)), none] [] = .rt (.bl true) h' := (seq f).trans rfl
  rw [run_rt rfl (v := .bl true) (h' := h') body]
  exact gc_ex
end K01
end

section
set_option Elab.async false
set_option linter.all false
set_option autoImplicit false
set_option maxRecDepth 100000
set_option maxHeartbeats 4000000
/-! each def by its body: derivations over the small semantics (printed by gen.py) -/
namespace K01
open PySem PySem.Spec PyProof.Rows L2 IR He
def top (i : Nat) : Stmt := PySem.Challenge.pw_sparedlines_k01_builds_by_rows_of_operat.main.body.getD i (.Pass ⟨0, 0, 0, 0⟩)
abbrev st_is_name : Stmt := top 8
abbrev st_is_ascending : Stmt := top 9
abbrev st_merged : Stmt := top 10
abbrev st_in_order : Stmt := top 11
abbrev st_are_kinds : Stmt := top 13
abbrev st_kinds_of : Stmt := top 14
abbrev st_kinds_without : Stmt := top 15
abbrev st_build_with : Stmt := top 16
abbrev st_Build_init : Stmt := clsSt (top 17) 0
abbrev st_Build_kinds : Stmt := clsSt (top 17) 1
abbrev st_Build_eq : Stmt := clsSt (top 17) 2
abbrev st_Build_contains : Stmt := clsSt (top 17) 3
abbrev st_Build_abs : Stmt := clsSt (top 17) 4
abbrev st_Build_bool : Stmt := clsSt (top 17) 5
abbrev st_Build_or : Stmt := clsSt (top 17) 6
abbrev st_Build_ror : Stmt := clsSt (top 17) 7
abbrev st_Build_and : Stmt := clsSt (top 17) 8
abbrev st_Build_rand : Stmt := clsSt (top 17) 9
abbrev st_Build_sub : Stmt := clsSt (top 17) 10
abbrev st_Build_rsub : Stmt := clsSt (top 17) 11
abbrev st_Build_xor : Stmt := clsSt (top 17) 12
abbrev st_Build_rxor : Stmt := clsSt (top 17) 13
abbrev st_Build_le : Stmt := clsSt (top 17) 14
abbrev st_Build_lt : Stmt := clsSt (top 17) 15
abbrev st_Build_ge : Stmt := clsSt (top 17) 16
abbrev st_Build_gt : Stmt := clsSt (top 17) 17
abbrev st_law_pot : Stmt := top 19
abbrev st_law_take : Stmt := top 20
abbrev st_law_of : Stmt := top 21
abbrev st_law_ordered : Stmt := top 22
abbrev st_law_word : Stmt := top 23
abbrev st_law_due : Stmt := top 24
abbrev st_law_by : Stmt := top 25
abbrev st_law_placed : Stmt := top 26
abbrev st_law_compared : Stmt := top 27
abbrev st_law_rows_of : Stmt := top 28
abbrev st_law : Stmt := top 29
/-- where each def stands -/
def adr (K : PySem.W.Frag) : Nat → Addr
  | 0 => ga K "is_name"
  | 1 => ga K "is_ascending"
  | 2 => ga K "merged"
  | 3 => ga K "in_order"
  | 4 => ga K "are_kinds"
  | 5 => ga K "kinds_of"
  | 6 => ga K "kinds_without"
  | 7 => ga K "build_with"
  | 8 => ma K (ga K "Build") "__init__"
  | 9 => propG K (ma K (ga K "Build") "kinds")
  | 10 => ma K (ga K "Build") "__eq__"
  | 11 => ma K (ga K "Build") "__contains__"
  | 12 => ma K (ga K "Build") "__abs__"
  | 13 => ma K (ga K "Build") "__bool__"
  | 14 => ma K (ga K "Build") "__or__"
  | 15 => ma K (ga K "Build") "__ror__"
  | 16 => ma K (ga K "Build") "__and__"
  | 17 => ma K (ga K "Build") "__rand__"
  | 18 => ma K (ga K "Build") "__sub__"
  | 19 => ma K (ga K "Build") "__rsub__"
  | 20 => ma K (ga K "Build") "__xor__"
  | 21 => ma K (ga K "Build") "__rxor__"
  | 22 => ma K (ga K "Build") "__le__"
  | 23 => ma K (ga K "Build") "__lt__"
  | 24 => ma K (ga K "Build") "__ge__"
  | 25 => ma K (ga K "Build") "__gt__"
  | 26 => ga K "_law_pot"
  | 27 => ga K "_law_take"
  | 28 => ga K "_law_of"
  | 29 => ga K "_law_ordered"
  | 30 => ga K "_law_word"
  | 31 => ga K "_law_due"
  | 32 => ga K "_law_by"
  | 33 => ga K "_law_placed"
  | 34 => ga K "_law_compared"
  | 35 => ga K "_law_rows_of"
  | 36 => ga K "law"
  | _ => 0
def pst : Nat → List Str
  | 0 => ["value"]
  | 1 => ["rows"]
  | 2 => ["one", "other"]
  | 3 => ["rows"]
  | 4 => ["value"]
  | 5 => ["value"]
  | 6 => ["one", "other"]
  | 7 => ["one", "other"]
  | 8 => ["self", "kinds"]
  | 9 => ["self"]
  | 10 => ["self", "other"]
  | 11 => ["self", "kind"]
  | 12 => ["self"]
  | 13 => ["self"]
  | 14 => ["self", "other"]
  | 15 => ["self", "other"]
  | 16 => ["self", "other"]
  | 17 => ["self", "other"]
  | 18 => ["self", "other"]
  | 19 => ["self", "other"]
  | 20 => ["self", "other"]
  | 21 => ["self", "other"]
  | 22 => ["self", "other"]
  | 23 => ["self", "other"]
  | 24 => ["self", "other"]
  | 25 => ["self", "other"]
  | 26 => ["_law_script", "_law_k"]
  | 27 => ["_law_pot_here", "_law_upto"]
  | 28 => ["_law_pot_here", "_law_some"]
  | 29 => ["_law_rows"]
  | 30 => ["_law_pot_here"]
  | 31 => ["_law_word_here", "_law_one", "_law_other"]
  | 32 => ["_law_word_here", "_law_one", "_law_other"]
  | 33 => ["_law_word_here", "_law_one", "_law_other"]
  | 34 => ["_law_one", "_law_other", "_law_kinds", "_law_others"]
  | 35 => ["_law_pot_here"]
  | 36 => ["_law_script"]
  | _ => []
def clN : Nat → Str
  | _ => "Build"
abbrev wd (K : PySem.W.Frag) : Wd := ⟨K, fun c => ga K (clN c), Str.ofString⟩
abbrev FunI (K : PySem.W.Frag) (i : Nat) (x qual : Str) (st : Stmt) : Prop := FunD K x qual (defArgs st) (defBody st) (defScope st) [] [] (adr K i) (fdOf K (adr K i))
/-- what the top has -/
structure Top (K : PySem.W.Frag) (mg : Str → Option Value) : Prop where
  d0 : FunI K 0 "is_name" "is_name" st_is_name
  d1 : FunI K 1 "is_ascending" "is_ascending" st_is_ascending
  d2 : FunI K 2 "merged" "merged" st_merged
  d3 : FunI K 3 "in_order" "in_order" st_in_order
  d4 : FunI K 4 "are_kinds" "are_kinds" st_are_kinds
  d5 : FunI K 5 "kinds_of" "kinds_of" st_kinds_of
  d6 : FunI K 6 "kinds_without" "kinds_without" st_kinds_without
  d7 : FunI K 7 "build_with" "build_with" st_build_with
  d8 : FunI K 8 "__init__" "Build.__init__" st_Build_init
  d9 : FunI K 9 "kinds" "Build.kinds" st_Build_kinds
  d10 : FunI K 10 "__eq__" "Build.__eq__" st_Build_eq
  d11 : FunI K 11 "__contains__" "Build.__contains__" st_Build_contains
  d12 : FunI K 12 "__abs__" "Build.__abs__" st_Build_abs
  d13 : FunI K 13 "__bool__" "Build.__bool__" st_Build_bool
  d14 : FunI K 14 "__or__" "Build.__or__" st_Build_or
  d15 : FunI K 15 "__ror__" "Build.__ror__" st_Build_ror
  d16 : FunI K 16 "__and__" "Build.__and__" st_Build_and
  d17 : FunI K 17 "__rand__" "Build.__rand__" st_Build_rand
  d18 : FunI K 18 "__sub__" "Build.__sub__" st_Build_sub
  d19 : FunI K 19 "__rsub__" "Build.__rsub__" st_Build_rsub
  d20 : FunI K 20 "__xor__" "Build.__xor__" st_Build_xor
  d21 : FunI K 21 "__rxor__" "Build.__rxor__" st_Build_rxor
  d22 : FunI K 22 "__le__" "Build.__le__" st_Build_le
  d23 : FunI K 23 "__lt__" "Build.__lt__" st_Build_lt
  d24 : FunI K 24 "__ge__" "Build.__ge__" st_Build_ge
  d25 : FunI K 25 "__gt__" "Build.__gt__" st_Build_gt
  d26 : FunI K 26 "_law_pot" "_law_pot" st_law_pot
  d27 : FunI K 27 "_law_take" "_law_take" st_law_take
  d28 : FunI K 28 "_law_of" "_law_of" st_law_of
  d29 : FunI K 29 "_law_ordered" "_law_ordered" st_law_ordered
  d30 : FunI K 30 "_law_word" "_law_word" st_law_word
  d31 : FunI K 31 "_law_due" "_law_due" st_law_due
  d32 : FunI K 32 "_law_by" "_law_by" st_law_by
  d33 : FunI K 33 "_law_placed" "_law_placed" st_law_placed
  d34 : FunI K 34 "_law_compared" "_law_compared" st_law_compared
  d35 : FunI K 35 "_law_rows_of" "_law_rows_of" st_law_rows_of
  d36 : FunI K 36 "law" "law" st_law
  g_Build : mg "Build" = some (.ref (ga K "Build"))
  g__law_by : mg "_law_by" = some (.ref (ga K "_law_by"))
  g__law_compared : mg "_law_compared" = some (.ref (ga K "_law_compared"))
  g__law_due : mg "_law_due" = some (.ref (ga K "_law_due"))
  g__law_of : mg "_law_of" = some (.ref (ga K "_law_of"))
  g__law_ordered : mg "_law_ordered" = some (.ref (ga K "_law_ordered"))
  g__law_placed : mg "_law_placed" = some (.ref (ga K "_law_placed"))
  g__law_pot : mg "_law_pot" = some (.ref (ga K "_law_pot"))
  g__law_rows_of : mg "_law_rows_of" = some (.ref (ga K "_law_rows_of"))
  g__law_take : mg "_law_take" = some (.ref (ga K "_law_take"))
  g__law_word : mg "_law_word" = some (.ref (ga K "_law_word"))
  g_are_kinds : mg "are_kinds" = some (.ref (ga K "are_kinds"))
  g_build_with : mg "build_with" = some (.ref (ga K "build_with"))
  g_in_order : mg "in_order" = some (.ref (ga K "in_order"))
  g_is_ascending : mg "is_ascending" = some (.ref (ga K "is_ascending"))
  g_is_name : mg "is_name" = some (.ref (ga K "is_name"))
  g_kinds_of : mg "kinds_of" = some (.ref (ga K "kinds_of"))
  g_kinds_without : mg "kinds_without" = some (.ref (ga K "kinds_without"))
  g_law : mg "law" = some (.ref (ga K "law"))
  g_merged : mg "merged" = some (.ref (ga K "merged"))
  f_abs : mg "abs" = none
  f_all : mg "all" = none
  f_bool : mg "bool" = none
  f_int : mg "int" = none
  f_isinstance : mg "isinstance" = none
  f_len : mg "len" = none
  f_max : mg "max" = none
  f_min : mg "min" = none
  f_range : mg "range" = none
  f_repr : mg "repr" = none
  f_str : mg "str" = none
  f_tuple : mg "tuple" = none
  f_zip : mg "zip" = none
  c_LETTERS : ∃ u v, mg "LETTERS" = some u ∧ RelV v u ∧ ∀ α H, Rep K α H (.str [97, 98, 99, 100, 101, 102, 103, 104, 105, 106, 107, 108, 109, 110, 111, 112, 113, 114, 115, 116, 117, 118, 119, 120, 121, 122]) v
  c_MOST_LETTERS : ∃ u v, mg "MOST_LETTERS" = some u ∧ RelV v u ∧ ∀ α H, Rep K α H (.int 8) v
  c_TAKEN_WORDS : ∃ u v, mg "TAKEN_WORDS" = some u ∧ RelV v u ∧ ∀ α H, Rep K α H (.tup [(.str [110, 101, 120, 116]), (.str [109, 111, 114, 101]), (.str [110, 111, 116]), (.str [115, 97, 109, 101]), (.str [108, 101, 115, 115]), (.str [97, 110, 100]), (.str [111, 114])]) v
  cls : ∀ c, ClsOk (wd K) c
  cmp_Build_eq : CmpF K (ga K "Build") (adr K 10) "__eq__"
  cmp_Build_ge : CmpF K (ga K "Build") (adr K 24) "__ge__"
  cmp_Build_gt : CmpF K (ga K "Build") (adr K 25) "__gt__"
  cmp_Build_le : CmpF K (ga K "Build") (adr K 22) "__le__"
  cmp_Build_lt : CmpF K (ga K "Build") (adr K 23) "__lt__"
  na_own_kinds : ∀ c, NoAttr K ((wd K).cl c) ((wd K).fld "own_kinds")
  isa_Build : IsaOk (wd K) sub (.own 0) (.ref (ga K "Build"))
  isa_str : IsaOk (wd K) sub .tStr (.type "str")
  isa_tuple : IsaOk (wd K) sub .tTuple (.type "tuple")
  meth_Build_abs : PySem.W.findIn K (.ref (ga K "Build")) (Str.ofString "__abs__") = some (some (.ref (adr K 12))) ∧ PySem.W.isFn K (.ref (adr K 12)) = true
  meth_Build_bool : PySem.W.findIn K (.ref (ga K "Build")) (Str.ofString "__bool__") = some (some (.ref (adr K 13))) ∧ PySem.W.isFn K (.ref (adr K 13)) = true
  meth_Build_contains : PySem.W.findIn K (.ref (ga K "Build")) (Str.ofString "__contains__") = some (some (.ref (adr K 11))) ∧ PySem.W.isFn K (.ref (adr K 11)) = true
  meth_Build_eq : PySem.W.findIn K (.ref (ga K "Build")) (Str.ofString "__eq__") = some (some (.ref (adr K 10))) ∧ PySem.W.isFn K (.ref (adr K 10)) = true
  mk_Build : Mk K (ga K "Build") (ma K (ga K "Build") "__init__")
  ne_Build : PySem.W.findIn K (.ref (ga K "Build")) (Str.ofString "__ne__") = some (some (.builtin "object.__ne__"))
  op_Build_and : OpF K (ga K "Build") (adr K 16) "and"
  op_Build_or : OpF K (ga K "Build") (adr K 14) "or"
  op_Build_sub : OpF K (ga K "Build") (adr K 18) "sub"
  op_Build_xor : OpF K (ga K "Build") (adr K 20) "xor"
  opi_Build_and : OpIF K (ga K "Build") "and"
  opi_Build_or : OpIF K (ga K "Build") "or"
  opi_Build_sub : OpIF K (ga K "Build") "sub"
  opi_Build_xor : OpIF K (ga K "Build") "xor"
  opr_Build_and : OpRF K (ga K "Build") (adr K 17) "and"
  opr_Build_or : OpRF K (ga K "Build") (adr K 15) "or"
  opr_Build_sub : OpRF K (ga K "Build") (adr K 19) "sub"
  opr_Build_xor : OpRF K (ga K "Build") (adr K 21) "xor"
  prop_Build_kinds : PropOf K (ga K "Build") "kinds" (ma K (ga K "Build") "kinds") (adr K 9)
theorem sc_is_name : FnScope ["value", "letter"] ["value"] (defScope st_is_name) := ⟨rfl, rfl, rfl, by decide +kernel, rfl, by decide +kernel, by decide +kernel⟩
theorem sc_is_ascending : FnScope ["rows", "one", "other"] ["rows"] (defScope st_is_ascending) := ⟨rfl, rfl, rfl, by decide +kernel, rfl, by decide +kernel, by decide +kernel⟩
theorem sc_merged : FnScope ["one", "other", "found", "here", "there"] ["one", "other"] (defScope st_merged) := ⟨rfl, rfl, rfl, by decide +kernel, rfl, by decide +kernel, by decide +kernel⟩
theorem sc_in_order : FnScope ["rows", "parts", "pairs", "row", "at"] ["rows"] (defScope st_in_order) := ⟨rfl, rfl, rfl, by decide +kernel, rfl, by decide +kernel, by decide +kernel⟩
theorem sc_are_kinds : FnScope ["value", "kind"] ["value"] (defScope st_are_kinds) := ⟨rfl, rfl, rfl, by decide +kernel, rfl, by decide +kernel, by decide +kernel⟩
theorem sc_kinds_of : FnScope ["value"] ["value"] (defScope st_kinds_of) := ⟨rfl, rfl, rfl, by decide +kernel, rfl, by decide +kernel, by decide +kernel⟩
theorem sc_kinds_without : FnScope ["one", "other", "kind"] ["one", "other"] (defScope st_kinds_without) := ⟨rfl, rfl, rfl, by decide +kernel, rfl, by decide +kernel, by decide +kernel⟩
theorem sc_build_with : FnScope ["one", "other"] ["one", "other"] (defScope st_build_with) := ⟨rfl, rfl, rfl, by decide +kernel, rfl, by decide +kernel, by decide +kernel⟩
theorem sc_Build_init : FnScope ["self", "kinds"] ["self", "kinds"] (defScope st_Build_init) := ⟨rfl, rfl, rfl, by decide +kernel, rfl, by decide +kernel, by decide +kernel⟩
theorem sc_Build_kinds : FnScope ["self"] ["self"] (defScope st_Build_kinds) := ⟨rfl, rfl, rfl, by decide +kernel, rfl, by decide +kernel, by decide +kernel⟩
theorem sc_Build_eq : FnScope ["self", "other"] ["self", "other"] (defScope st_Build_eq) := ⟨rfl, rfl, rfl, by decide +kernel, rfl, by decide +kernel, by decide +kernel⟩
theorem sc_Build_contains : FnScope ["self", "kind"] ["self", "kind"] (defScope st_Build_contains) := ⟨rfl, rfl, rfl, by decide +kernel, rfl, by decide +kernel, by decide +kernel⟩
theorem sc_Build_abs : FnScope ["self"] ["self"] (defScope st_Build_abs) := ⟨rfl, rfl, rfl, by decide +kernel, rfl, by decide +kernel, by decide +kernel⟩
theorem sc_Build_bool : FnScope ["self"] ["self"] (defScope st_Build_bool) := ⟨rfl, rfl, rfl, by decide +kernel, rfl, by decide +kernel, by decide +kernel⟩
theorem sc_Build_or : FnScope ["self", "other", "some"] ["self", "other"] (defScope st_Build_or) := ⟨rfl, rfl, rfl, by decide +kernel, rfl, by decide +kernel, by decide +kernel⟩
theorem sc_Build_ror : FnScope ["self", "other"] ["self", "other"] (defScope st_Build_ror) := ⟨rfl, rfl, rfl, by decide +kernel, rfl, by decide +kernel, by decide +kernel⟩
theorem sc_Build_and : FnScope ["self", "other", "some", "kind"] ["self", "other"] (defScope st_Build_and) := ⟨rfl, rfl, rfl, by decide +kernel, rfl, by decide +kernel, by decide +kernel⟩
theorem sc_Build_rand : FnScope ["self", "other"] ["self", "other"] (defScope st_Build_rand) := ⟨rfl, rfl, rfl, by decide +kernel, rfl, by decide +kernel, by decide +kernel⟩
theorem sc_Build_sub : FnScope ["self", "other", "some"] ["self", "other"] (defScope st_Build_sub) := ⟨rfl, rfl, rfl, by decide +kernel, rfl, by decide +kernel, by decide +kernel⟩
theorem sc_Build_rsub : FnScope ["self", "other", "some"] ["self", "other"] (defScope st_Build_rsub) := ⟨rfl, rfl, rfl, by decide +kernel, rfl, by decide +kernel, by decide +kernel⟩
theorem sc_Build_xor : FnScope ["self", "other", "some"] ["self", "other"] (defScope st_Build_xor) := ⟨rfl, rfl, rfl, by decide +kernel, rfl, by decide +kernel, by decide +kernel⟩
theorem sc_Build_rxor : FnScope ["self", "other"] ["self", "other"] (defScope st_Build_rxor) := ⟨rfl, rfl, rfl, by decide +kernel, rfl, by decide +kernel, by decide +kernel⟩
theorem sc_Build_le : FnScope ["self", "other"] ["self", "other"] (defScope st_Build_le) := ⟨rfl, rfl, rfl, by decide +kernel, rfl, by decide +kernel, by decide +kernel⟩
theorem sc_Build_lt : FnScope ["self", "other"] ["self", "other"] (defScope st_Build_lt) := ⟨rfl, rfl, rfl, by decide +kernel, rfl, by decide +kernel, by decide +kernel⟩
theorem sc_Build_ge : FnScope ["self", "other"] ["self", "other"] (defScope st_Build_ge) := ⟨rfl, rfl, rfl, by decide +kernel, rfl, by decide +kernel, by decide +kernel⟩
theorem sc_Build_gt : FnScope ["self", "other"] ["self", "other"] (defScope st_Build_gt) := ⟨rfl, rfl, rfl, by decide +kernel, rfl, by decide +kernel, by decide +kernel⟩
theorem sc_law_pot : FnScope ["_law_script", "_law_k", "_law_cell", "_law_own", "_law_small"] ["_law_script", "_law_k"] (defScope st_law_pot) := ⟨rfl, rfl, rfl, by decide +kernel, rfl, by decide +kernel, by decide +kernel⟩
theorem sc_law_take : FnScope ["_law_pot_here", "_law_upto", "_law_prime", "_law_mixed", "_law_digit"] ["_law_pot_here", "_law_upto"] (defScope st_law_take) := ⟨rfl, rfl, rfl, by decide +kernel, rfl, by decide +kernel, by decide +kernel⟩
theorem sc_law_of : FnScope ["_law_pot_here", "_law_some"] ["_law_pot_here", "_law_some"] (defScope st_law_of) := ⟨rfl, rfl, rfl, by decide +kernel, rfl, by decide +kernel, by decide +kernel⟩
theorem sc_law_ordered : FnScope ["_law_rows", "_law_found", "_law_row", "_law_at"] ["_law_rows"] (defScope st_law_ordered) := ⟨rfl, rfl, rfl, by decide +kernel, rfl, by decide +kernel, by decide +kernel⟩
theorem sc_law_word : FnScope ["_law_pot_here", "_law_word_here", "_law_lap"] ["_law_pot_here"] (defScope st_law_word) := ⟨rfl, rfl, rfl, by decide +kernel, rfl, by decide +kernel, by decide +kernel⟩
theorem sc_law_due : FnScope ["_law_word_here", "_law_one", "_law_other", "_law_kind"] ["_law_word_here", "_law_one", "_law_other"] (defScope st_law_due) := ⟨rfl, rfl, rfl, by decide +kernel, rfl, by decide +kernel, by decide +kernel⟩
theorem sc_law_by : FnScope ["_law_word_here", "_law_one", "_law_other"] ["_law_word_here", "_law_one", "_law_other"] (defScope st_law_by) := ⟨rfl, rfl, rfl, by decide +kernel, rfl, by decide +kernel, by decide +kernel⟩
theorem sc_law_placed : FnScope ["_law_word_here", "_law_one", "_law_other"] ["_law_word_here", "_law_one", "_law_other"] (defScope st_law_placed) := ⟨rfl, rfl, rfl, by decide +kernel, rfl, by decide +kernel, by decide +kernel⟩
theorem sc_law_compared : FnScope ["_law_one", "_law_other", "_law_kinds", "_law_others", "_law_within", "_law_beyond", "_law_told", "_law_alike", "_law_kind"] ["_law_one", "_law_other", "_law_kinds", "_law_others"] (defScope st_law_compared) := ⟨rfl, rfl, rfl, by decide +kernel, rfl, by decide +kernel, by decide +kernel⟩
theorem sc_law_rows_of : FnScope ["_law_pot_here", "_law_names", "_law_made", "_law_dues", "_law_lap", "_law_due_here", "_law_word_here", "_law_way", "_law_at", "_law_beside", "_law_name", "_law_told", "_law_one"] ["_law_pot_here"] (defScope st_law_rows_of) := ⟨rfl, rfl, rfl, by decide +kernel, rfl, by decide +kernel, by decide +kernel⟩
theorem sc_law : FnScope ["_law_script", "_law_k"] ["_law_script"] (defScope st_law) := ⟨rfl, rfl, rfl, by decide +kernel, rfl, by decide +kernel, by decide +kernel⟩
section
variable {P : Program} {w : World} {K : PySem.W.Frag} {mg : Str → Option Value} {base : PySem.Heap}
theorem Top.kp (T : Top K mg) : ∀ i, i < 37 → PySem.W.keepIn K (.ref (adr K i)) = true
  | 0, _ => T.d0.kp
  | 1, _ => T.d1.kp
  | 2, _ => T.d2.kp
  | 3, _ => T.d3.kp
  | 4, _ => T.d4.kp
  | 5, _ => T.d5.kp
  | 6, _ => T.d6.kp
  | 7, _ => T.d7.kp
  | 8, _ => T.d8.kp
  | 9, _ => T.d9.kp
  | 10, _ => T.d10.kp
  | 11, _ => T.d11.kp
  | 12, _ => T.d12.kp
  | 13, _ => T.d13.kp
  | 14, _ => T.d14.kp
  | 15, _ => T.d15.kp
  | 16, _ => T.d16.kp
  | 17, _ => T.d17.kp
  | 18, _ => T.d18.kp
  | 19, _ => T.d19.kp
  | 20, _ => T.d20.kp
  | 21, _ => T.d21.kp
  | 22, _ => T.d22.kp
  | 23, _ => T.d23.kp
  | 24, _ => T.d24.kp
  | 25, _ => T.d25.kp
  | 26, _ => T.d26.kp
  | 27, _ => T.d27.kp
  | 28, _ => T.d28.kp
  | 29, _ => T.d29.kp
  | 30, _ => T.d30.kp
  | 31, _ => T.d31.kp
  | 32, _ => T.d32.kp
  | 33, _ => T.d33.kp
  | 34, _ => T.d34.kp
  | 35, _ => T.d35.kp
  | 36, _ => T.d36.kp
  | _ + 37, h => absurd h (by omega)
theorem Top.bd (T : Top K mg) : ∀ i, i < 37 → Binds K (fdOf K (adr K i)) (pst i) []
  | 0, _ => T.d0.bindsN fun _ _ _ _ _ _ us hl => match us, hl with | [_], _ => rfl
  | 1, _ => T.d1.bindsN fun _ _ _ _ _ _ us hl => match us, hl with | [_], _ => rfl
  | 2, _ => T.d2.bindsN fun _ _ _ _ _ _ us hl => match us, hl with | [_, _], _ => rfl
  | 3, _ => T.d3.bindsN fun _ _ _ _ _ _ us hl => match us, hl with | [_], _ => rfl
  | 4, _ => T.d4.bindsN fun _ _ _ _ _ _ us hl => match us, hl with | [_], _ => rfl
  | 5, _ => T.d5.bindsN fun _ _ _ _ _ _ us hl => match us, hl with | [_], _ => rfl
  | 6, _ => T.d6.bindsN fun _ _ _ _ _ _ us hl => match us, hl with | [_, _], _ => rfl
  | 7, _ => T.d7.bindsN fun _ _ _ _ _ _ us hl => match us, hl with | [_, _], _ => rfl
  | 8, _ => T.d8.bindsN fun _ _ _ _ _ _ us hl => match us, hl with | [_, _], _ => rfl
  | 9, _ => T.d9.bindsN fun _ _ _ _ _ _ us hl => match us, hl with | [_], _ => rfl
  | 10, _ => T.d10.bindsN fun _ _ _ _ _ _ us hl => match us, hl with | [_, _], _ => rfl
  | 11, _ => T.d11.bindsN fun _ _ _ _ _ _ us hl => match us, hl with | [_, _], _ => rfl
  | 12, _ => T.d12.bindsN fun _ _ _ _ _ _ us hl => match us, hl with | [_], _ => rfl
  | 13, _ => T.d13.bindsN fun _ _ _ _ _ _ us hl => match us, hl with | [_], _ => rfl
  | 14, _ => T.d14.bindsN fun _ _ _ _ _ _ us hl => match us, hl with | [_, _], _ => rfl
  | 15, _ => T.d15.bindsN fun _ _ _ _ _ _ us hl => match us, hl with | [_, _], _ => rfl
  | 16, _ => T.d16.bindsN fun _ _ _ _ _ _ us hl => match us, hl with | [_, _], _ => rfl
  | 17, _ => T.d17.bindsN fun _ _ _ _ _ _ us hl => match us, hl with | [_, _], _ => rfl
  | 18, _ => T.d18.bindsN fun _ _ _ _ _ _ us hl => match us, hl with | [_, _], _ => rfl
  | 19, _ => T.d19.bindsN fun _ _ _ _ _ _ us hl => match us, hl with | [_, _], _ => rfl
  | 20, _ => T.d20.bindsN fun _ _ _ _ _ _ us hl => match us, hl with | [_, _], _ => rfl
  | 21, _ => T.d21.bindsN fun _ _ _ _ _ _ us hl => match us, hl with | [_, _], _ => rfl
  | 22, _ => T.d22.bindsN fun _ _ _ _ _ _ us hl => match us, hl with | [_, _], _ => rfl
  | 23, _ => T.d23.bindsN fun _ _ _ _ _ _ us hl => match us, hl with | [_, _], _ => rfl
  | 24, _ => T.d24.bindsN fun _ _ _ _ _ _ us hl => match us, hl with | [_, _], _ => rfl
  | 25, _ => T.d25.bindsN fun _ _ _ _ _ _ us hl => match us, hl with | [_, _], _ => rfl
  | 26, _ => T.d26.bindsN fun _ _ _ _ _ _ us hl => match us, hl with | [_, _], _ => rfl
  | 27, _ => T.d27.bindsN fun _ _ _ _ _ _ us hl => match us, hl with | [_, _], _ => rfl
  | 28, _ => T.d28.bindsN fun _ _ _ _ _ _ us hl => match us, hl with | [_, _], _ => rfl
  | 29, _ => T.d29.bindsN fun _ _ _ _ _ _ us hl => match us, hl with | [_], _ => rfl
  | 30, _ => T.d30.bindsN fun _ _ _ _ _ _ us hl => match us, hl with | [_], _ => rfl
  | 31, _ => T.d31.bindsN fun _ _ _ _ _ _ us hl => match us, hl with | [_, _, _], _ => rfl
  | 32, _ => T.d32.bindsN fun _ _ _ _ _ _ us hl => match us, hl with | [_, _, _], _ => rfl
  | 33, _ => T.d33.bindsN fun _ _ _ _ _ _ us hl => match us, hl with | [_, _, _], _ => rfl
  | 34, _ => T.d34.bindsN fun _ _ _ _ _ _ us hl => match us, hl with | [_, _, _, _], _ => rfl
  | 35, _ => T.d35.bindsN fun _ _ _ _ _ _ us hl => match us, hl with | [_], _ => rfl
  | 36, _ => T.d36.bindsN fun _ _ _ _ _ _ us hl => match us, hl with | [_], _ => rfl
  | _ + 37, h => absurd h (by omega)
abbrev AllOk (P : Program) (w : World) (K : PySem.W.Frag) (mg : Str → Option Value) (base : PySem.Heap) (j : Nat) (g : Nat → OL) : Prop := ∀ i, FnG P w K mg base j (adr K i) (fdOf K (adr K i)) (pst i) (spG (wd K) (g i))
theorem clN_top {K : PySem.W.Frag} : ∀ c, 0 ≤ c → (wd K).cl c = (wd K).cl 0
  | c, h => by
    have e : clN c = clN 0 := by
      unfold clN
      split <;> first | rfl | omega
    show ga K (clN c) = ga K (clN 0)
    rw [e]
theorem na_ok {K : PySem.W.Frag} {f : String} (h : ((List.range 1).all fun c => (Fa.noat (clN c) (Str.ofString f)).ok K) = true) : ∀ c, NoAttr K ((wd K).cl c) ((wd K).fld f) := by
  intro c
  by_cases hc : c < 1
  · exact noat_ok (List.all_eq_true.mp h c (List.mem_range.mpr hc))
  · rw [clN_top c (by omega)]
    exact noat_ok (List.all_eq_true.mp h 0 (List.mem_range.mpr (by omega)))
end
end K01
end

section
set_option Elab.async false
set_option linter.all false
set_option autoImplicit false
set_option maxRecDepth 100000
set_option maxHeartbeats 4000000
/-! each def by its body (printed by gen.py) -/
namespace K01
open PySem PySem.Spec PyProof.Rows L2 IR He
section
variable {P : Program} {w : World} {K : PySem.W.Frag} {mg : Str → Option Value} {base : PySem.Heap}
theorem ok_is_name (T : Top K mg) {n : Nat} {κ : Kap} (hκ : κ.shown = shownP) (A1 : AllOk P w K mg base (n + 3) κ.fn) (A2 : AllOk P w K mg base (n + 2) κ.ini) (A3 : AllOk P w K mg base n κ.low) : FnG P w K mg base (n + 4) (adr K 0) (fdOf K (adr K 0)) (pst 0) (spG (wd K) (runDef κ d_is_name)) :=
  fn_def T.d0 sc_is_name rfl rfl fun cdv A outer s H E hr hn =>
    qs_cons (q_ifS ((qw_or (qt_not (qt_e (by rfl) (q_isa (W := wd K) (by rfl) T.cls T.isa_str (.ty _) (by rfl) T.f_isinstance (q_var 0) (pe_bltn (by rfl) T.f_str (by rfl) rfl)))) (qw_or (qt_not (qt_chain op_le op_le s_le s_le (q_int) (q_callB s_len call_len (by rfl) T.f_len (by rfl) (qa_cons (q_var 0) (qa_nil))) ((T.c_MOST_LETTERS).elim fun u hu => hu.elim fun v hv => q_glob (by rfl) hv.1 hv.2.1 hv.2.2))) (qw_or1 (qt_cmp op_inAll s_in (q_var 0) ((T.c_TAKEN_WORDS).elim fun u hu => hu.elim fun v hv => q_glob (by rfl) hv.1 hv.2.1 hv.2.2) rfl)))).pt) (qs_one (q_ret (q_bl))) (qs_nil)) (
    qs_one (q_ret (q_callB s_all (cr_all (by rfl)) (by rfl) T.f_all (by rfl) (qa_cons (q_lc [("letter", 1)] (by rfl) sc_is_name.nd (qi_str (q_var 0)) (by exact (show BlkOk ["value", "letter"] (defScope st_is_name) _ _ from ⟨rfl, by decide +kernel, by decide +kernel, by decide +kernel, by decide +kernel⟩)) (fun _ _ _ _ _ => qg_name 1 sc_is_name.nd (fun _ _ => wipe_own (by decide))) (fun _ _ _ _ _ => qts_nil) (fun _ _ _ _ _ => q_cmp op_inAll s_in (q_var 1) ((T.c_LETTERS).elim fun u hu => hu.elim fun v hv => q_glob (by rfl) hv.1 hv.2.1 hv.2.2) rfl)) (qa_nil)))))
theorem ok_is_ascending (T : Top K mg) {n : Nat} {κ : Kap} (hκ : κ.shown = shownP) (A1 : AllOk P w K mg base (n + 3) κ.fn) (A2 : AllOk P w K mg base (n + 2) κ.ini) (A3 : AllOk P w K mg base n κ.low) : FnG P w K mg base (n + 4) (adr K 1) (fdOf K (adr K 1)) (pst 1) (spG (wd K) (runDef κ d_is_ascending)) :=
  fn_def T.d1 sc_is_ascending rfl rfl fun cdv A outer s H E hr hn =>
    qs_one (q_ret (q_callB s_all (cr_all (by rfl)) (by rfl) T.f_all (by rfl) (qa_cons (q_lc [("one", 1), ("other", 2)] (by rfl) sc_is_ascending.nd (qi_zipT (by rfl) (by rfl) T.f_zip (q_var 0) (q_slice (by rfl) (q_var 0) (qo_some (q_int)) (qo_none))) (by exact (show BlkOk ["rows", "one", "other"] (defScope st_is_ascending) _ _ from ⟨rfl, by decide +kernel, by decide +kernel, by decide +kernel, by decide +kernel⟩)) (fun _ _ _ _ _ => qg_tup (by rfl) (by rfl) (qgs_cons (qg_name 1 sc_is_ascending.nd (fun _ _ => wipe_own (by decide))) (qgs_cons (qg_name 2 sc_is_ascending.nd (fun _ _ => wipe_own (by decide))) (qgs_nil (fun _ => rfl)) (fun _ _ _ a b => b.trans a)) (fun _ _ _ a b => b.trans a))) (fun _ _ _ _ _ => qts_nil) (fun _ _ _ _ _ => q_cmp op_ltAll s_lt (q_var 1) (q_var 2) (nomark _))) (qa_nil))))
theorem ok_merged (T : Top K mg) {n : Nat} {κ : Kap} (hκ : κ.shown = shownP) (A1 : AllOk P w K mg base (n + 3) κ.fn) (A2 : AllOk P w K mg base (n + 2) κ.ini) (A3 : AllOk P w K mg base n κ.low) : FnG P w K mg base (n + 4) (adr K 2) (fdOf K (adr K 2)) (pst 2) (spG (wd K) (runDef κ d_merged)) :=
  fn_def T.d2 sc_merged rfl rfl fun cdv A outer s H E hr hn =>
    qs_cons (q_set 2 sc_merged.nd (q_lst (qa_nil))) (
    qs_cons (q_set 3 sc_merged.nd (q_int)) (
    qs_cons (q_set 4 sc_merged.nd (q_int)) (
    qs_cons (q_while passes_def ((qw_and (qt_cmp op_ltAll s_lt (q_var 3) (q_callB s_len call_len (by rfl) T.f_len (by rfl) (qa_cons (q_var 0) (qa_nil))) (nomark _)) (qw_and1 (qt_cmp op_ltAll s_lt (q_var 4) (q_callB s_len call_len (by rfl) T.f_len (by rfl) (qa_cons (q_var 1) (qa_nil))) (nomark _)))).pt) (qs_one (q_ifS (qt_cmp op_ltAll s_lt (q_item (by rfl) (q_var 1) (q_var 4)) (q_item (by rfl) (q_var 0) (q_var 3)) (nomark _)) (qs_cons (q_expr (q_append (by rfl) (q_var 2) (q_item (by rfl) (q_var 1) (q_var 4)))) (
    qs_one (q_augI 4 sc_merged.nd ip_add s_addI (q_int)))) (qs_cons (q_expr (q_append (by rfl) (q_var 2) (q_item (by rfl) (q_var 0) (q_var 3)))) (
    qs_one (q_augI 3 sc_merged.nd ip_add s_addI (q_int))))))) (
    qs_one (q_ret (q_2 op_addAll s_add (q_2 op_addAll s_add (q_var 2) (q_slice (by rfl) (q_var 0) (qo_some (q_var 3)) (qo_none))) (q_slice (by rfl) (q_var 1) (qo_some (q_var 4)) (qo_none))))))))
theorem ok_in_order (T : Top K mg) {n : Nat} {κ : Kap} (hκ : κ.shown = shownP) (A1 : AllOk P w K mg base (n + 3) κ.fn) (A2 : AllOk P w K mg base (n + 2) κ.ini) (A3 : AllOk P w K mg base n κ.low) : FnG P w K mg base (n + 4) (adr K 3) (fdOf K (adr K 3)) (pst 3) (spG (wd K) (runDef κ d_in_order)) :=
  fn_def T.d3 sc_in_order rfl rfl fun cdv A outer s H E hr hn =>
    qs_cons (q_set 1 sc_in_order.nd (q_lc [("row", 3)] (by rfl) sc_in_order.nd (qi_list (by rfl) (q_var 0)) (by exact (show BlkOk ["rows", "parts", "pairs", "row", "at"] (defScope st_in_order) _ _ from ⟨rfl, by decide +kernel, by decide +kernel, by decide +kernel, by decide +kernel⟩)) (fun _ _ _ _ _ => qg_name 3 sc_in_order.nd (fun _ _ => wipe_own (by decide))) (fun _ _ _ _ _ => qts_nil) (fun _ _ _ _ _ => q_lst (qa_cons (q_var 3) (qa_nil))))) (
    qs_cons (q_while passes_def (qt_cmp op_gt s_gt (q_callB s_len call_len (by rfl) T.f_len (by rfl) (qa_cons (q_var 1) (qa_nil))) (q_int) (nomark _)) (qs_cons (q_setLc 2 [("at", 4)] (by rfl) sc_in_order.nd (by rfl) (qi_rng3 (by rfl) T.f_range (q_int) (q_2 op_sub s_sub (q_callB s_len call_len (by rfl) T.f_len (by rfl) (qa_cons (q_var 1) (qa_nil))) (q_int)) (q_int)) (by exact (show BlkOk ["rows", "parts", "pairs", "row", "at"] (defScope st_in_order) _ _ from ⟨rfl, by decide +kernel, by decide +kernel, by decide +kernel, by decide +kernel⟩)) (fun _ _ _ _ _ => qg_name 4 sc_in_order.nd (fun _ _ => wipe_own (by decide))) (fun _ _ _ _ _ => qts_nil) (fun _ _ _ _ _ => q_call (A1 2) T.g_merged (T.kp 2 (by decide)) (T.bd 2 (by decide)) takes_none hr hn (qa_cons (q_item (by rfl) (q_var 1) (q_var 4)) (qa_cons (q_item (by rfl) (q_var 1) (q_2 op_addAll s_add (q_var 4) (q_int))) (qa_nil))))) (
    qs_one (q_set 1 sc_in_order.nd (q_2 op_addAll s_add (q_var 2) (q_slice (by rfl) (q_var 1) (qo_some (q_2 op_mulAll s_mul (q_int) (q_callB s_len call_len (by rfl) T.f_len (by rfl) (qa_cons (q_var 2) (qa_nil))))) (qo_none))))))) (
    qs_one (q_ret (q_if (qt_cmp (op_neD hr.units) s_ne (q_var 1) (q_lst (qa_nil)) (nomark _)) (q_item (by rfl) (q_var 1) (q_int)) (q_lst (qa_nil))))))
theorem ok_are_kinds (T : Top K mg) {n : Nat} {κ : Kap} (hκ : κ.shown = shownP) (A1 : AllOk P w K mg base (n + 3) κ.fn) (A2 : AllOk P w K mg base (n + 2) κ.ini) (A3 : AllOk P w K mg base n κ.low) : FnG P w K mg base (n + 4) (adr K 4) (fdOf K (adr K 4)) (pst 4) (spG (wd K) (runDef κ d_are_kinds)) :=
  fn_def T.d4 sc_are_kinds rfl rfl fun cdv A outer s H E hr hn =>
    qs_one (q_ret (q_and (q_isa (W := wd K) (by rfl) T.cls T.isa_tuple (.ty _) (by rfl) T.f_isinstance (q_var 0) (pe_bltn (by rfl) T.f_tuple (by rfl) rfl)) (q_and (q_callB s_all (cr_all (by rfl)) (by rfl) T.f_all (by rfl) (qa_cons (q_lc [("kind", 1)] (by rfl) sc_are_kinds.nd (qi_tup (by rfl) (q_var 0)) (by exact (show BlkOk ["value", "kind"] (defScope st_are_kinds) _ _ from ⟨rfl, by decide +kernel, by decide +kernel, by decide +kernel, by decide +kernel⟩)) (fun _ _ _ _ _ => qg_name 1 sc_are_kinds.nd (fun _ _ => wipe_own (by decide))) (fun _ _ _ _ _ => qts_nil) (fun _ _ _ _ _ => q_call (A1 0) T.g_is_name (T.kp 0 (by decide)) (T.bd 0 (by decide)) takes_none hr hn (qa_cons (q_var 1) (qa_nil)))) (qa_nil))) (q_and1 (q_call (A1 1) T.g_is_ascending (T.kp 1 (by decide)) (T.bd 1 (by decide)) takes_def hr hn (qa_cons (q_var 0) (qa_nil)))))))
theorem ok_kinds_of (T : Top K mg) {n : Nat} {κ : Kap} (hκ : κ.shown = shownP) (A1 : AllOk P w K mg base (n + 3) κ.fn) (A2 : AllOk P w K mg base (n + 2) κ.ini) (A3 : AllOk P w K mg base n κ.low) : FnG P w K mg base (n + 4) (adr K 5) (fdOf K (adr K 5)) (pst 5) (spG (wd K) (runDef κ d_kinds_of)) :=
  fn_def T.d5 sc_kinds_of rfl rfl fun cdv A outer s H E hr hn =>
    qs_cons (q_ifS (qt_e (by rfl) (q_isa (W := wd K) (by rfl) T.cls T.isa_Build (.own _) (by rfl) T.f_isinstance (q_var 0) (pe_glob (by rfl) T.g_Build rfl))) (qs_one (q_ret (q_fld (W := wd K) (f := "own_kinds") (by rfl) (fun _ _ => fld_inj) T.cls T.na_own_kinds (q_var 0)))) (qs_nil)) (
    qs_one (q_ret (q_if (qt_e (by rfl) (q_call (A1 0) T.g_is_name (T.kp 0 (by decide)) (T.bd 0 (by decide)) takes_def hr hn (qa_cons (q_var 0) (qa_nil)))) (q_tup (qa_cons (q_var 0) (qa_nil))) (q_non))))
theorem ok_kinds_without (T : Top K mg) {n : Nat} {κ : Kap} (hκ : κ.shown = shownP) (A1 : AllOk P w K mg base (n + 3) κ.fn) (A2 : AllOk P w K mg base (n + 2) κ.ini) (A3 : AllOk P w K mg base n κ.low) : FnG P w K mg base (n + 4) (adr K 6) (fdOf K (adr K 6)) (pst 6) (spG (wd K) (runDef κ d_kinds_without)) :=
  fn_def T.d6 sc_kinds_without rfl rfl fun cdv A outer s H E hr hn =>
    qs_one (q_ret (q_callTy s_tuple call_tuple_of (by rfl) T.f_tuple (by rfl) (qa_cons (q_lc [("kind", 2)] (by rfl) sc_kinds_without.nd (qi_tup (by rfl) (q_var 0)) (by exact (show BlkOk ["one", "other", "kind"] (defScope st_kinds_without) _ _ from ⟨rfl, by decide +kernel, by decide +kernel, by decide +kernel, by decide +kernel⟩)) (fun _ _ _ _ _ => qg_name 2 sc_kinds_without.nd (fun _ _ => wipe_own (by decide))) (fun _ _ _ _ _ => qts_one (qt_cmp op_niAll s_notin (q_var 2) (q_var 1) rfl)) (fun _ _ _ _ _ => q_var 2)) (qa_nil))))
theorem ok_build_with (T : Top K mg) {n : Nat} {κ : Kap} (hκ : κ.shown = shownP) (A1 : AllOk P w K mg base (n + 3) κ.fn) (A2 : AllOk P w K mg base (n + 2) κ.ini) (A3 : AllOk P w K mg base n κ.low) : FnG P w K mg base (n + 4) (adr K 7) (fdOf K (adr K 7)) (pst 7) (spG (wd K) (runDef κ d_build_with)) :=
  fn_def T.d7 sc_build_with rfl rfl fun cdv A outer s H E hr hn =>
    qs_one (q_ret (q_new (W := wd K) (c := 0) (f := adr K 8) T.mk_Build (A2 8) T.g_Build (T.bd 8 (by decide)) takes_def hr hn (qa_cons (q_callTy s_tuple call_tuple_of (by rfl) T.f_tuple (by rfl) (qa_cons (q_call (A1 3) T.g_in_order (T.kp 3 (by decide)) (T.bd 3 (by decide)) takes_def hr hn (qa_cons (q_lst (qa_star (by rfl) (q_var 0) (qa_star (by rfl) (q_var 1) (qa_nil)))) (qa_nil))) (qa_nil))) (qa_nil))))
theorem ok_Build_init (T : Top K mg) {n : Nat} {κ : Kap} (hκ : κ.shown = shownP) (A1 : AllOk P w K mg base (n + 3) κ.fn) (A2 : AllOk P w K mg base (n + 2) κ.ini) (A3 : AllOk P w K mg base n κ.low) : FnG P w K mg base (n + 4) (adr K 8) (fdOf K (adr K 8)) (pst 8) (spG (wd K) (runDef κ d_Build_init)) :=
  fn_def T.d8 sc_Build_init rfl rfl fun cdv A outer s H E hr hn =>
    qs_cons (q_ifS (qt_not (qt_e (by rfl) (q_call (A1 4) T.g_are_kinds (T.kp 4 (by decide)) (T.bd 4 (by decide)) takes_def hr hn (qa_cons (q_var 1) (qa_nil))))) (qs_one (q_bad)) (qs_nil)) (
    qs_one (q_attr (W := wd K) (fn := "own_kinds") (by rfl) (fun _ _ => fld_inj) T.cls T.na_own_kinds (q_var 0) (q_var 1)))
theorem ok_Build_kinds (T : Top K mg) {n : Nat} {κ : Kap} (hκ : κ.shown = shownP) (A1 : AllOk P w K mg base (n + 3) κ.fn) (A2 : AllOk P w K mg base (n + 2) κ.ini) (A3 : AllOk P w K mg base n κ.low) : FnG P w K mg base (n + 4) (adr K 9) (fdOf K (adr K 9)) (pst 9) (spG (wd K) (runDef κ d_Build_kinds)) :=
  fn_def T.d9 sc_Build_kinds rfl rfl fun cdv A outer s H E hr hn =>
    qs_one (q_ret (q_fld (W := wd K) (f := "own_kinds") (by rfl) (fun _ _ => fld_inj) T.cls T.na_own_kinds (q_var 0)))
theorem ok_Build_eq (T : Top K mg) {n : Nat} {κ : Kap} (hκ : κ.shown = shownP) (A1 : AllOk P w K mg base (n + 3) κ.fn) (A2 : AllOk P w K mg base (n + 2) κ.ini) (A3 : AllOk P w K mg base n κ.low) : FnG P w K mg base (n + 4) (adr K 10) (fdOf K (adr K 10)) (pst 10) (spG (wd K) (runDef κ d_Build_eq)) :=
  fn_def T.d10 sc_Build_eq rfl rfl fun cdv A outer s H E hr hn =>
    qs_one (q_ret (q_and (q_isa (W := wd K) (by rfl) T.cls T.isa_Build (.own _) (by rfl) T.f_isinstance (q_var 1) (pe_glob (by rfl) T.g_Build rfl)) (q_and1 (q_cmp (op_eqD hr.units) s_eq (q_fld (W := wd K) (f := "own_kinds") (by rfl) (fun _ _ => fld_inj) T.cls T.na_own_kinds (q_var 0)) (q_fld (W := wd K) (f := "own_kinds") (by rfl) (fun _ _ => fld_inj) T.cls T.na_own_kinds (q_var 1)) (nomark _)))))
theorem ok_Build_contains (T : Top K mg) {n : Nat} {κ : Kap} (hκ : κ.shown = shownP) (A1 : AllOk P w K mg base (n + 3) κ.fn) (A2 : AllOk P w K mg base (n + 2) κ.ini) (A3 : AllOk P w K mg base n κ.low) : FnG P w K mg base (n + 4) (adr K 11) (fdOf K (adr K 11)) (pst 11) (spG (wd K) (runDef κ d_Build_contains)) :=
  fn_def T.d11 sc_Build_contains rfl rfl fun cdv A outer s H E hr hn =>
    qs_one (q_ret (q_and (q_isa (W := wd K) (by rfl) T.cls T.isa_str (.ty _) (by rfl) T.f_isinstance (q_var 1) (pe_bltn (by rfl) T.f_str (by rfl) rfl)) (q_and1 (q_cmp op_inAll s_in (q_var 1) (q_fld (W := wd K) (f := "own_kinds") (by rfl) (fun _ _ => fld_inj) T.cls T.na_own_kinds (q_var 0)) rfl))))
theorem ok_Build_abs (T : Top K mg) {n : Nat} {κ : Kap} (hκ : κ.shown = shownP) (A1 : AllOk P w K mg base (n + 3) κ.fn) (A2 : AllOk P w K mg base (n + 2) κ.ini) (A3 : AllOk P w K mg base n κ.low) : FnG P w K mg base (n + 4) (adr K 12) (fdOf K (adr K 12)) (pst 12) (spG (wd K) (runDef κ d_Build_abs)) :=
  fn_def T.d12 sc_Build_abs rfl rfl fun cdv A outer s H E hr hn =>
    qs_one (q_ret (q_callB s_len call_len (by rfl) T.f_len (by rfl) (qa_cons (q_fld (W := wd K) (f := "own_kinds") (by rfl) (fun _ _ => fld_inj) T.cls T.na_own_kinds (q_var 0)) (qa_nil))))
theorem ok_Build_bool (T : Top K mg) {n : Nat} {κ : Kap} (hκ : κ.shown = shownP) (A1 : AllOk P w K mg base (n + 3) κ.fn) (A2 : AllOk P w K mg base (n + 2) κ.ini) (A3 : AllOk P w K mg base n κ.low) : FnG P w K mg base (n + 4) (adr K 13) (fdOf K (adr K 13)) (pst 13) (spG (wd K) (runDef κ d_Build_bool)) :=
  fn_def T.d13 sc_Build_bool rfl rfl fun cdv A outer s H E hr hn =>
    qs_one (q_ret (q_callTy s_bool call_boolV (by rfl) T.f_bool (by rfl) (qa_cons (q_fld (W := wd K) (f := "own_kinds") (by rfl) (fun _ _ => fld_inj) T.cls T.na_own_kinds (q_var 0)) (qa_nil))))
theorem ok_Build_or (T : Top K mg) {n : Nat} {κ : Kap} (hκ : κ.shown = shownP) (A1 : AllOk P w K mg base (n + 3) κ.fn) (A2 : AllOk P w K mg base (n + 2) κ.ini) (A3 : AllOk P w K mg base n κ.low) : FnG P w K mg base (n + 4) (adr K 14) (fdOf K (adr K 14)) (pst 14) (spG (wd K) (runDef κ d_Build_or)) :=
  fn_def T.d14 sc_Build_or rfl rfl fun cdv A outer s H E hr hn =>
    qs_cons (q_set 2 sc_Build_or.nd (q_call (A1 5) T.g_kinds_of (T.kp 5 (by decide)) (T.bd 5 (by decide)) takes_def hr hn (qa_cons (q_var 1) (qa_nil)))) (
    qs_cons (q_ifS (qt_cmp op_isN s_is (q_var 2) (q_non) (nomark _)) (qs_one (q_bad)) (qs_nil)) (
    qs_one (q_ret (q_call (A1 7) T.g_build_with (T.kp 7 (by decide)) (T.bd 7 (by decide)) takes_def hr hn (qa_cons (q_fld (W := wd K) (f := "own_kinds") (by rfl) (fun _ _ => fld_inj) T.cls T.na_own_kinds (q_var 0)) (qa_cons (q_call (A1 6) T.g_kinds_without (T.kp 6 (by decide)) (T.bd 6 (by decide)) takes_def hr hn (qa_cons (q_var 2) (qa_cons (q_fld (W := wd K) (f := "own_kinds") (by rfl) (fun _ _ => fld_inj) T.cls T.na_own_kinds (q_var 0)) (qa_nil)))) (qa_nil)))))))
theorem ok_Build_ror (T : Top K mg) {n : Nat} {κ : Kap} (hκ : κ.shown = shownP) (A1 : AllOk P w K mg base (n + 3) κ.fn) (A2 : AllOk P w K mg base (n + 2) κ.ini) (A3 : AllOk P w K mg base n κ.low) : FnG P w K mg base (n + 4) (adr K 15) (fdOf K (adr K 15)) (pst 15) (spG (wd K) (runDef κ d_Build_ror)) :=
  fn_def T.d15 sc_Build_ror rfl rfl fun cdv A outer s H E hr hn =>
    qs_one (q_ret (q_own (by rfl) T.op_Build_or (A1 14) (T.bd 14 (by decide)) T.opr_Build_or (A1 15) (T.bd 15 (by decide)) takes_def hr hr hn (q_var 0) (q_var 1)))
theorem ok_Build_and (T : Top K mg) {n : Nat} {κ : Kap} (hκ : κ.shown = shownP) (A1 : AllOk P w K mg base (n + 3) κ.fn) (A2 : AllOk P w K mg base (n + 2) κ.ini) (A3 : AllOk P w K mg base n κ.low) : FnG P w K mg base (n + 4) (adr K 16) (fdOf K (adr K 16)) (pst 16) (spG (wd K) (runDef κ d_Build_and)) :=
  fn_def T.d16 sc_Build_and rfl rfl fun cdv A outer s H E hr hn =>
    qs_cons (q_set 2 sc_Build_and.nd (q_call (A1 5) T.g_kinds_of (T.kp 5 (by decide)) (T.bd 5 (by decide)) takes_def hr hn (qa_cons (q_var 1) (qa_nil)))) (
    qs_cons (q_ifS (qt_cmp op_isN s_is (q_var 2) (q_non) (nomark _)) (qs_one (q_bad)) (qs_nil)) (
    qs_one (q_ret (q_new (W := wd K) (c := 0) (f := adr K 8) T.mk_Build (A2 8) T.g_Build (T.bd 8 (by decide)) takes_def hr hn (qa_cons (q_callTy s_tuple call_tuple_of (by rfl) T.f_tuple (by rfl) (qa_cons (q_lc [("kind", 3)] (by rfl) sc_Build_and.nd (qi_tup (by rfl) (q_fld (W := wd K) (f := "own_kinds") (by rfl) (fun _ _ => fld_inj) T.cls T.na_own_kinds (q_var 0))) (by exact (show BlkOk ["self", "other", "some", "kind"] (defScope st_Build_and) _ _ from ⟨rfl, by decide +kernel, by decide +kernel, by decide +kernel, by decide +kernel⟩)) (fun _ _ _ _ _ => qg_name 3 sc_Build_and.nd (fun _ _ => wipe_own (by decide))) (fun _ _ _ _ _ => qts_one (qt_cmp op_inAll s_in (q_var 3) (q_var 2) rfl)) (fun _ _ _ _ _ => q_var 3)) (qa_nil))) (qa_nil))))))
theorem ok_Build_rand (T : Top K mg) {n : Nat} {κ : Kap} (hκ : κ.shown = shownP) (A1 : AllOk P w K mg base (n + 3) κ.fn) (A2 : AllOk P w K mg base (n + 2) κ.ini) (A3 : AllOk P w K mg base n κ.low) : FnG P w K mg base (n + 4) (adr K 17) (fdOf K (adr K 17)) (pst 17) (spG (wd K) (runDef κ d_Build_rand)) :=
  fn_def T.d17 sc_Build_rand rfl rfl fun cdv A outer s H E hr hn =>
    qs_one (q_ret (q_own (by rfl) T.op_Build_and (A1 16) (T.bd 16 (by decide)) T.opr_Build_and (A1 17) (T.bd 17 (by decide)) takes_def hr hr hn (q_var 0) (q_var 1)))
theorem ok_Build_sub (T : Top K mg) {n : Nat} {κ : Kap} (hκ : κ.shown = shownP) (A1 : AllOk P w K mg base (n + 3) κ.fn) (A2 : AllOk P w K mg base (n + 2) κ.ini) (A3 : AllOk P w K mg base n κ.low) : FnG P w K mg base (n + 4) (adr K 18) (fdOf K (adr K 18)) (pst 18) (spG (wd K) (runDef κ d_Build_sub)) :=
  fn_def T.d18 sc_Build_sub rfl rfl fun cdv A outer s H E hr hn =>
    qs_cons (q_set 2 sc_Build_sub.nd (q_call (A1 5) T.g_kinds_of (T.kp 5 (by decide)) (T.bd 5 (by decide)) takes_def hr hn (qa_cons (q_var 1) (qa_nil)))) (
    qs_cons (q_ifS (qt_cmp op_isN s_is (q_var 2) (q_non) (nomark _)) (qs_one (q_bad)) (qs_nil)) (
    qs_one (q_ret (q_new (W := wd K) (c := 0) (f := adr K 8) T.mk_Build (A2 8) T.g_Build (T.bd 8 (by decide)) takes_def hr hn (qa_cons (q_call (A1 6) T.g_kinds_without (T.kp 6 (by decide)) (T.bd 6 (by decide)) takes_def hr hn (qa_cons (q_fld (W := wd K) (f := "own_kinds") (by rfl) (fun _ _ => fld_inj) T.cls T.na_own_kinds (q_var 0)) (qa_cons (q_var 2) (qa_nil)))) (qa_nil))))))
theorem ok_Build_rsub (T : Top K mg) {n : Nat} {κ : Kap} (hκ : κ.shown = shownP) (A1 : AllOk P w K mg base (n + 3) κ.fn) (A2 : AllOk P w K mg base (n + 2) κ.ini) (A3 : AllOk P w K mg base n κ.low) : FnG P w K mg base (n + 4) (adr K 19) (fdOf K (adr K 19)) (pst 19) (spG (wd K) (runDef κ d_Build_rsub)) :=
  fn_def T.d19 sc_Build_rsub rfl rfl fun cdv A outer s H E hr hn =>
    qs_cons (q_set 2 sc_Build_rsub.nd (q_call (A1 5) T.g_kinds_of (T.kp 5 (by decide)) (T.bd 5 (by decide)) takes_def hr hn (qa_cons (q_var 1) (qa_nil)))) (
    qs_cons (q_ifS (qt_cmp op_isN s_is (q_var 2) (q_non) (nomark _)) (qs_one (q_bad)) (qs_nil)) (
    qs_one (q_ret (q_new (W := wd K) (c := 0) (f := adr K 8) T.mk_Build (A2 8) T.g_Build (T.bd 8 (by decide)) takes_def hr hn (qa_cons (q_call (A1 6) T.g_kinds_without (T.kp 6 (by decide)) (T.bd 6 (by decide)) takes_def hr hn (qa_cons (q_var 2) (qa_cons (q_fld (W := wd K) (f := "own_kinds") (by rfl) (fun _ _ => fld_inj) T.cls T.na_own_kinds (q_var 0)) (qa_nil)))) (qa_nil))))))
theorem ok_Build_xor (T : Top K mg) {n : Nat} {κ : Kap} (hκ : κ.shown = shownP) (A1 : AllOk P w K mg base (n + 3) κ.fn) (A2 : AllOk P w K mg base (n + 2) κ.ini) (A3 : AllOk P w K mg base n κ.low) : FnG P w K mg base (n + 4) (adr K 20) (fdOf K (adr K 20)) (pst 20) (spG (wd K) (runDef κ d_Build_xor)) :=
  fn_def T.d20 sc_Build_xor rfl rfl fun cdv A outer s H E hr hn =>
    qs_cons (q_set 2 sc_Build_xor.nd (q_call (A1 5) T.g_kinds_of (T.kp 5 (by decide)) (T.bd 5 (by decide)) takes_def hr hn (qa_cons (q_var 1) (qa_nil)))) (
    qs_cons (q_ifS (qt_cmp op_isN s_is (q_var 2) (q_non) (nomark _)) (qs_one (q_bad)) (qs_nil)) (
    qs_one (q_ret (q_call (A1 7) T.g_build_with (T.kp 7 (by decide)) (T.bd 7 (by decide)) takes_def hr hn (qa_cons (q_call (A1 6) T.g_kinds_without (T.kp 6 (by decide)) (T.bd 6 (by decide)) takes_def hr hn (qa_cons (q_fld (W := wd K) (f := "own_kinds") (by rfl) (fun _ _ => fld_inj) T.cls T.na_own_kinds (q_var 0)) (qa_cons (q_var 2) (qa_nil)))) (qa_cons (q_call (A1 6) T.g_kinds_without (T.kp 6 (by decide)) (T.bd 6 (by decide)) takes_def hr hn (qa_cons (q_var 2) (qa_cons (q_fld (W := wd K) (f := "own_kinds") (by rfl) (fun _ _ => fld_inj) T.cls T.na_own_kinds (q_var 0)) (qa_nil)))) (qa_nil)))))))
theorem ok_Build_rxor (T : Top K mg) {n : Nat} {κ : Kap} (hκ : κ.shown = shownP) (A1 : AllOk P w K mg base (n + 3) κ.fn) (A2 : AllOk P w K mg base (n + 2) κ.ini) (A3 : AllOk P w K mg base n κ.low) : FnG P w K mg base (n + 4) (adr K 21) (fdOf K (adr K 21)) (pst 21) (spG (wd K) (runDef κ d_Build_rxor)) :=
  fn_def T.d21 sc_Build_rxor rfl rfl fun cdv A outer s H E hr hn =>
    qs_one (q_ret (q_own (by rfl) T.op_Build_xor (A1 20) (T.bd 20 (by decide)) T.opr_Build_xor (A1 21) (T.bd 21 (by decide)) takes_def hr hr hn (q_var 0) (q_var 1)))
theorem ok_Build_le (T : Top K mg) {n : Nat} {κ : Kap} (hκ : κ.shown = shownP) (A1 : AllOk P w K mg base (n + 3) κ.fn) (A2 : AllOk P w K mg base (n + 2) κ.ini) (A3 : AllOk P w K mg base n κ.low) : FnG P w K mg base (n + 4) (adr K 22) (fdOf K (adr K 22)) (pst 22) (spG (wd K) (runDef κ d_Build_le)) :=
  fn_def T.d22 sc_Build_le rfl rfl fun cdv A outer s H E hr hn =>
    qs_cons (q_ifS (qt_not (qt_e (by rfl) (q_isa (W := wd K) (by rfl) T.cls T.isa_Build (.own _) (by rfl) T.f_isinstance (q_var 1) (pe_glob (by rfl) T.g_Build rfl)))) (qs_one (q_bad)) (qs_nil)) (
    qs_one (q_ret (q_cmp (op_eqD hr.units) s_eq (q_call (A1 6) T.g_kinds_without (T.kp 6 (by decide)) (T.bd 6 (by decide)) takes_def hr hn (qa_cons (q_fld (W := wd K) (f := "own_kinds") (by rfl) (fun _ _ => fld_inj) T.cls T.na_own_kinds (q_var 0)) (qa_cons (q_fld (W := wd K) (f := "own_kinds") (by rfl) (fun _ _ => fld_inj) T.cls T.na_own_kinds (q_var 1)) (qa_nil)))) (q_tup (qa_nil)) (nomark _))))
theorem ok_Build_lt (T : Top K mg) {n : Nat} {κ : Kap} (hκ : κ.shown = shownP) (A1 : AllOk P w K mg base (n + 3) κ.fn) (A2 : AllOk P w K mg base (n + 2) κ.ini) (A3 : AllOk P w K mg base n κ.low) : FnG P w K mg base (n + 4) (adr K 23) (fdOf K (adr K 23)) (pst 23) (spG (wd K) (runDef κ d_Build_lt)) :=
  fn_def T.d23 sc_Build_lt rfl rfl fun cdv A outer s H E hr hn =>
    qs_cons (q_ifS (qt_not (qt_e (by rfl) (q_isa (W := wd K) (by rfl) T.cls T.isa_Build (.own _) (by rfl) T.f_isinstance (q_var 1) (pe_glob (by rfl) T.g_Build rfl)))) (qs_one (q_bad)) (qs_nil)) (
    qs_one (q_ret (q_and (q_cmpOwn (fun _ _ => rfl) (by rfl) T.cmp_Build_le (A1 22) (T.bd 22 (by decide)) takes_def hr hn (q_var 0) (q_var 1) (nomark _)) (q_and1 (q_cmp (op_neD hr.units) s_ne (q_fld (W := wd K) (f := "own_kinds") (by rfl) (fun _ _ => fld_inj) T.cls T.na_own_kinds (q_var 0)) (q_fld (W := wd K) (f := "own_kinds") (by rfl) (fun _ _ => fld_inj) T.cls T.na_own_kinds (q_var 1)) (nomark _))))))
theorem ok_Build_ge (T : Top K mg) {n : Nat} {κ : Kap} (hκ : κ.shown = shownP) (A1 : AllOk P w K mg base (n + 3) κ.fn) (A2 : AllOk P w K mg base (n + 2) κ.ini) (A3 : AllOk P w K mg base n κ.low) : FnG P w K mg base (n + 4) (adr K 24) (fdOf K (adr K 24)) (pst 24) (spG (wd K) (runDef κ d_Build_ge)) :=
  fn_def T.d24 sc_Build_ge rfl rfl fun cdv A outer s H E hr hn =>
    qs_cons (q_ifS (qt_not (qt_e (by rfl) (q_isa (W := wd K) (by rfl) T.cls T.isa_Build (.own _) (by rfl) T.f_isinstance (q_var 1) (pe_glob (by rfl) T.g_Build rfl)))) (qs_one (q_bad)) (qs_nil)) (
    qs_one (q_ret (q_cmpOwn (fun _ _ => rfl) (by rfl) T.cmp_Build_le (A1 22) (T.bd 22 (by decide)) takes_def hr hn (q_var 1) (q_var 0) (nomark _))))
theorem ok_Build_gt (T : Top K mg) {n : Nat} {κ : Kap} (hκ : κ.shown = shownP) (A1 : AllOk P w K mg base (n + 3) κ.fn) (A2 : AllOk P w K mg base (n + 2) κ.ini) (A3 : AllOk P w K mg base n κ.low) : FnG P w K mg base (n + 4) (adr K 25) (fdOf K (adr K 25)) (pst 25) (spG (wd K) (runDef κ d_Build_gt)) :=
  fn_def T.d25 sc_Build_gt rfl rfl fun cdv A outer s H E hr hn =>
    qs_cons (q_ifS (qt_not (qt_e (by rfl) (q_isa (W := wd K) (by rfl) T.cls T.isa_Build (.own _) (by rfl) T.f_isinstance (q_var 1) (pe_glob (by rfl) T.g_Build rfl)))) (qs_one (q_bad)) (qs_nil)) (
    qs_one (q_ret (q_cmpOwn (fun _ _ => rfl) (by rfl) T.cmp_Build_lt (A1 23) (T.bd 23 (by decide)) takes_def hr hn (q_var 1) (q_var 0) (nomark _))))
theorem ok_law_pot (T : Top K mg) {n : Nat} {κ : Kap} (hκ : κ.shown = shownP) (A1 : AllOk P w K mg base (n + 3) κ.fn) (A2 : AllOk P w K mg base (n + 2) κ.ini) (A3 : AllOk P w K mg base n κ.low) : FnG P w K mg base (n + 4) (adr K 26) (fdOf K (adr K 26)) (pst 26) (spG (wd K) (runDef κ d_law_pot)) :=
  fn_def T.d26 sc_law_pot rfl rfl fun cdv A outer s H E hr hn =>
    qs_cons (q_set 2 sc_law_pot.nd (q_if (qt_cmp op_ltAll s_lt (q_var 1) (q_callB s_len call_len (by rfl) T.f_len (by rfl) (qa_cons (q_var 0) (qa_nil))) (nomark _)) (q_item (by rfl) (q_var 0) (q_var 1)) (q_2 op_addAll s_add (q_2 op_mulAll s_mul (q_int) (q_var 1)) (q_int)))) (
    qs_cons (q_set 3 sc_law_pot.nd (q_2 op_mulAll s_mul (q_2 op_mod s_mod (q_callTy s_int1 call_int1 (by rfl) T.f_int (by rfl) (qa_cons (q_callB s_abs call_abs (by rfl) T.f_abs (by rfl) (qa_cons (q_var 2) (qa_nil))) (qa_nil))) (q_2 op_powW s_pow (q_2 op_powW s_pow (q_int) (q_int)) (q_int))) (q_callTy s_int1 call_int1 (by rfl) T.f_int (by rfl) (qa_cons (q_cmp op_ge s_ge (q_callB s_abs call_abs (by rfl) T.f_abs (by rfl) (qa_cons (q_var 2) (qa_nil))) (q_2 op_powW s_pow (q_int) (q_int)) (nomark _)) (qa_nil))))) (
    qs_cons (q_set 4 sc_law_pot.nd (q_2 op_mod s_mod (q_callTy s_int1 call_int1 (by rfl) T.f_int (by rfl) (qa_cons (q_var 2) (qa_nil))) (q_int))) (
    qs_one (q_ret (q_lst (qa_cons (q_var 3) (qa_cons (q_2 op_mod s_mod (q_callTy s_int1 call_int1 (by rfl) T.f_int (by rfl) (qa_cons (q_2 op_addAll s_add (q_2 op_addAll s_add (q_2 op_mulAll s_mul (q_var 4) (q_int)) (q_2 op_mulAll s_mul (q_2 op_mulAll s_mul (q_int) (q_var 1)) (q_var 1))) (q_int)) (qa_nil))) (q_int)) (qa_cons (q_int) (qa_nil)))))))))
theorem ok_law_take (T : Top K mg) {n : Nat} {κ : Kap} (hκ : κ.shown = shownP) (A1 : AllOk P w K mg base (n + 3) κ.fn) (A2 : AllOk P w K mg base (n + 2) κ.ini) (A3 : AllOk P w K mg base n κ.low) : FnG P w K mg base (n + 4) (adr K 27) (fdOf K (adr K 27)) (pst 27) (spG (wd K) (runDef κ d_law_take)) :=
  fn_def T.d27 sc_law_take rfl rfl fun cdv A outer s H E hr hn =>
    qs_cons (q_ifS (qt_cmp op_gt s_gt (q_item (by rfl) (q_var 0) (q_int)) (q_int) (nomark _)) (qs_cons (q_set 4 sc_law_take.nd (q_2 op_mod s_mod (q_callTy s_int1 call_int1 (by rfl) T.f_int (by rfl) (qa_cons (q_item (by rfl) (q_var 0) (q_int)) (qa_nil))) (q_var 1))) (
    qs_cons (q_put (by rfl) (q_2 op_fdiv s_fdiv (q_item (by rfl) (q_var 0) (q_int)) (q_var 1)) (q_var 0) (q_int)) (
    qs_one (q_ret (q_var 4))))) (qs_nil)) (
    qs_cons (q_put (by rfl) (q_2 op_addAll s_add (q_item (by rfl) (q_var 0) (q_int)) (q_int)) (q_var 0) (q_int)) (
    qs_cons (q_set 2 sc_law_take.nd (q_item (by rfl) (q_lst (qa_cons (q_int) (qa_cons (q_int) (qa_cons (q_int) (qa_cons (q_int) (qa_cons (q_int) (qa_nil))))))) (q_2 op_mod s_mod (q_callTy s_int1 call_int1 (by rfl) T.f_int (by rfl) (qa_cons (q_item (by rfl) (q_var 0) (q_int)) (qa_nil))) (q_int)))) (
    qs_cons (q_set 3 sc_law_take.nd (q_2 op_mod s_mod (q_callTy s_int1 call_int1 (by rfl) T.f_int (by rfl) (qa_cons (q_2 op_powW s_pow (q_callTy s_int1 call_int1 (by rfl) T.f_int (by rfl) (qa_cons (q_2 op_addAll s_add (q_2 op_addAll s_add (q_item (by rfl) (q_var 0) (q_int)) (q_2 op_mulAll s_mul (q_2 op_mulAll s_mul (q_int) (q_item (by rfl) (q_var 0) (q_int))) (q_item (by rfl) (q_var 0) (q_int)))) (q_int)) (qa_nil))) (q_int)) (qa_nil))) (q_var 2))) (
    qs_cons (q_set 3 sc_law_take.nd (q_2 op_mod s_mod (q_callTy s_int1 call_int1 (by rfl) T.f_int (by rfl) (qa_cons (q_2 op_mulAll s_mul (q_var 3) (q_2 op_addAll s_add (q_2 op_mod s_mod (q_callTy s_int1 call_int1 (by rfl) T.f_int (by rfl) (qa_cons (q_var 3) (qa_nil))) (q_int)) (q_2 op_mulAll s_mul (q_int) (q_item (by rfl) (q_var 0) (q_int))))) (qa_nil))) (q_int))) (
    qs_one (q_ret (q_2 op_mod s_mod (q_callTy s_int1 call_int1 (by rfl) T.f_int (by rfl) (qa_cons (q_2 op_fdiv s_fdiv (q_var 3) (q_int)) (qa_nil))) (q_var 1))))))))
theorem ok_law_of (T : Top K mg) {n : Nat} {κ : Kap} (hκ : κ.shown = shownP) (A1 : AllOk P w K mg base (n + 3) κ.fn) (A2 : AllOk P w K mg base (n + 2) κ.ini) (A3 : AllOk P w K mg base n κ.low) : FnG P w K mg base (n + 4) (adr K 28) (fdOf K (adr K 28)) (pst 28) (spG (wd K) (runDef κ d_law_of)) :=
  fn_def T.d28 sc_law_of rfl rfl fun cdv A outer s H E hr hn =>
    qs_one (q_ret (q_item (by rfl) (q_var 1) (q_call (A1 27) T.g__law_take (T.kp 27 (by decide)) (T.bd 27 (by decide)) takes_def hr hn (qa_cons (q_var 0) (qa_cons (q_callB s_len call_len (by rfl) T.f_len (by rfl) (qa_cons (q_var 1) (qa_nil))) (qa_nil))))))
theorem ok_law_ordered (T : Top K mg) {n : Nat} {κ : Kap} (hκ : κ.shown = shownP) (A1 : AllOk P w K mg base (n + 3) κ.fn) (A2 : AllOk P w K mg base (n + 2) κ.ini) (A3 : AllOk P w K mg base n κ.low) : FnG P w K mg base (n + 4) (adr K 29) (fdOf K (adr K 29)) (pst 29) (spG (wd K) (runDef κ d_law_ordered)) :=
  fn_def T.d29 sc_law_ordered rfl rfl fun cdv A outer s H E hr hn =>
    qs_cons (q_set 1 sc_law_ordered.nd (q_lst (qa_nil))) (
    qs_cons (q_for passes_def (by rfl) (qi_list (by rfl) (q_var 0)) (qg_name 2 sc_law_ordered.nd) (qs_one (q_ifS (qt_cmp op_niAll s_notin (q_var 2) (q_var 1) rfl) (qs_cons (q_set 3 sc_law_ordered.nd (q_int)) (
    qs_cons (q_while passes_def ((qw_and (qt_cmp op_ltAll s_lt (q_var 3) (q_callB s_len call_len (by rfl) T.f_len (by rfl) (qa_cons (q_var 1) (qa_nil))) (nomark _)) (qw_and1 (qt_cmp op_ltAll s_lt (q_item (by rfl) (q_var 1) (q_var 3)) (q_var 2) (nomark _)))).pt) (qs_one (q_set 3 sc_law_ordered.nd (q_2 op_addAll s_add (q_var 3) (q_int))))) (
    qs_one (q_expr (q_insert (by rfl) (q_var 1) (q_var 3) (q_var 2)))))) (qs_nil)))) (
    qs_one (q_ret (q_var 1))))
theorem ok_law_word (T : Top K mg) {n : Nat} {κ : Kap} (hκ : κ.shown = shownP) (A1 : AllOk P w K mg base (n + 3) κ.fn) (A2 : AllOk P w K mg base (n + 2) κ.ini) (A3 : AllOk P w K mg base n κ.low) : FnG P w K mg base (n + 4) (adr K 30) (fdOf K (adr K 30)) (pst 30) (spG (wd K) (runDef κ d_law_word)) :=
  fn_def T.d30 sc_law_word rfl rfl fun cdv A outer s H E hr hn =>
    qs_cons (q_set 1 sc_law_word.nd (q_str [] (by first | rfl | decide +kernel) (by unfold okT; decide))) (
    qs_cons (q_for passes_def (by rfl) (qi_rng1 (by rfl) T.f_range (q_2 op_addAll s_add (q_int) (q_call (A1 27) T.g__law_take (T.kp 27 (by decide)) (T.bd 27 (by decide)) takes_def hr hn (qa_cons (q_var 0) (qa_cons (q_int) (qa_nil)))))) (qg_name 2 sc_law_word.nd) (qs_one (q_set 1 sc_law_word.nd (q_2 op_addAll s_add (q_var 1) (q_item (by rfl) (q_str [97, 98, 99, 100, 101, 102, 103, 104, 105, 106, 107, 108, 109, 110, 111, 112, 113, 114, 115, 116, 117, 118, 119, 120, 121, 122] (by first | rfl | decide +kernel) (by unfold okT; decide)) (q_call (A1 27) T.g__law_take (T.kp 27 (by decide)) (T.bd 27 (by decide)) takes_def hr hn (qa_cons (q_var 0) (qa_cons (q_int) (qa_nil))))))))) (
    qs_one (q_ret (q_2 op_addAll s_add (q_var 1) (q_2 op_mulAll s_mul (q_str [120] (by first | rfl | decide +kernel) (by unfold okT; decide)) (q_callTy s_int1 call_int1 (by rfl) T.f_int (by rfl) (qa_cons (q_cmp op_inAll s_in (q_var 1) (q_tup (qa_cons (q_str [110, 101, 120, 116] (by first | rfl | decide +kernel) (by unfold okT; decide)) (qa_cons (q_str [109, 111, 114, 101] (by first | rfl | decide +kernel) (by unfold okT; decide)) (qa_cons (q_str [110, 111, 116] (by first | rfl | decide +kernel) (by unfold okT; decide)) (qa_cons (q_str [115, 97, 109, 101] (by first | rfl | decide +kernel) (by unfold okT; decide)) (qa_cons (q_str [108, 101, 115, 115] (by first | rfl | decide +kernel) (by unfold okT; decide)) (qa_cons (q_str [97, 110, 100] (by first | rfl | decide +kernel) (by unfold okT; decide)) (qa_cons (q_str [111, 114] (by first | rfl | decide +kernel) (by unfold okT; decide)) (qa_nil))))))))) rfl) (qa_nil))))))))
theorem ok_law_due (T : Top K mg) {n : Nat} {κ : Kap} (hκ : κ.shown = shownP) (A1 : AllOk P w K mg base (n + 3) κ.fn) (A2 : AllOk P w K mg base (n + 2) κ.ini) (A3 : AllOk P w K mg base n κ.low) : FnG P w K mg base (n + 4) (adr K 31) (fdOf K (adr K 31)) (pst 31) (spG (wd K) (runDef κ d_law_due)) :=
  fn_def T.d31 sc_law_due rfl rfl fun cdv A outer s H E hr hn =>
    qs_cons (q_ifS (qt_cmp (op_eqD hr.units) s_eq (q_var 0) (q_str [124] (by first | rfl | decide +kernel) (by unfold okT; decide)) (nomark _)) (qs_one (q_ret (q_call (A1 29) T.g__law_ordered (T.kp 29 (by decide)) (T.bd 29 (by decide)) takes_def hr hn (qa_cons (q_2 op_addAll s_add (q_var 1) (q_var 2)) (qa_nil))))) (qs_nil)) (
    qs_cons (q_ifS (qt_cmp (op_eqD hr.units) s_eq (q_var 0) (q_str [38] (by first | rfl | decide +kernel) (by unfold okT; decide)) (nomark _)) (qs_one (q_ret (q_lc [("_law_kind", 3)] (by rfl) sc_law_due.nd (qi_list (by rfl) (q_var 1)) (by exact (show BlkOk ["_law_word_here", "_law_one", "_law_other", "_law_kind"] (defScope st_law_due) _ _ from ⟨rfl, by decide +kernel, by decide +kernel, by decide +kernel, by decide +kernel⟩)) (fun _ _ _ _ _ => qg_name 3 sc_law_due.nd (fun _ _ => wipe_own (by decide))) (fun _ _ _ _ _ => qts_one (qt_cmp op_inAll s_in (q_var 3) (q_var 2) rfl)) (fun _ _ _ _ _ => q_var 3)))) (qs_nil)) (
    qs_cons (q_ifS (qt_cmp (op_eqD hr.units) s_eq (q_var 0) (q_str [45] (by first | rfl | decide +kernel) (by unfold okT; decide)) (nomark _)) (qs_one (q_ret (q_lc [("_law_kind", 3)] (by rfl) sc_law_due.nd (qi_list (by rfl) (q_var 1)) (by exact (show BlkOk ["_law_word_here", "_law_one", "_law_other", "_law_kind"] (defScope st_law_due) _ _ from ⟨rfl, by decide +kernel, by decide +kernel, by decide +kernel, by decide +kernel⟩)) (fun _ _ _ _ _ => qg_name 3 sc_law_due.nd (fun _ _ => wipe_own (by decide))) (fun _ _ _ _ _ => qts_one (qt_cmp op_niAll s_notin (q_var 3) (q_var 2) rfl)) (fun _ _ _ _ _ => q_var 3)))) (qs_nil)) (
    qs_one (q_ret (q_call (A1 29) T.g__law_ordered (T.kp 29 (by decide)) (T.bd 29 (by decide)) takes_def hr hn (qa_cons (q_2 op_addAll s_add (q_lc [("_law_kind", 3)] (by rfl) sc_law_due.nd (qi_list (by rfl) (q_var 1)) (by exact (show BlkOk ["_law_word_here", "_law_one", "_law_other", "_law_kind"] (defScope st_law_due) _ _ from ⟨rfl, by decide +kernel, by decide +kernel, by decide +kernel, by decide +kernel⟩)) (fun _ _ _ _ _ => qg_name 3 sc_law_due.nd (fun _ _ => wipe_own (by decide))) (fun _ _ _ _ _ => qts_one (qt_cmp op_niAll s_notin (q_var 3) (q_var 2) rfl)) (fun _ _ _ _ _ => q_var 3)) (q_lc [("_law_kind", 3)] (by rfl) sc_law_due.nd (qi_list (by rfl) (q_var 2)) (by exact (show BlkOk ["_law_word_here", "_law_one", "_law_other", "_law_kind"] (defScope st_law_due) _ _ from ⟨rfl, by decide +kernel, by decide +kernel, by decide +kernel, by decide +kernel⟩)) (fun _ _ _ _ _ => qg_name 3 sc_law_due.nd (fun _ _ => wipe_own (by decide))) (fun _ _ _ _ _ => qts_one (qt_cmp op_niAll s_notin (q_var 3) (q_var 1) rfl)) (fun _ _ _ _ _ => q_var 3))) (qa_nil)))))))
theorem ok_law_by (T : Top K mg) {n : Nat} {κ : Kap} (hκ : κ.shown = shownP) (A1 : AllOk P w K mg base (n + 3) κ.fn) (A2 : AllOk P w K mg base (n + 2) κ.ini) (A3 : AllOk P w K mg base n κ.low) : FnG P w K mg base (n + 4) (adr K 32) (fdOf K (adr K 32)) (pst 32) (spG (wd K) (runDef κ d_law_by)) :=
  fn_def T.d32 sc_law_by rfl rfl fun cdv A outer s H E hr hn =>
    qs_cons (q_ifS (qt_cmp (op_eqD hr.units) s_eq (q_var 0) (q_str [124] (by first | rfl | decide +kernel) (by unfold okT; decide)) (nomark _)) (qs_one (q_ret (q_own (by rfl) T.op_Build_or (A1 14) (T.bd 14 (by decide)) T.opr_Build_or (A1 15) (T.bd 15 (by decide)) takes_def hr hr hn (q_var 1) (q_var 2)))) (qs_nil)) (
    qs_cons (q_ifS (qt_cmp (op_eqD hr.units) s_eq (q_var 0) (q_str [38] (by first | rfl | decide +kernel) (by unfold okT; decide)) (nomark _)) (qs_one (q_ret (q_own (by rfl) T.op_Build_and (A1 16) (T.bd 16 (by decide)) T.opr_Build_and (A1 17) (T.bd 17 (by decide)) takes_def hr hr hn (q_var 1) (q_var 2)))) (qs_nil)) (
    qs_one (q_ret (q_if (qt_cmp (op_eqD hr.units) s_eq (q_var 0) (q_str [45] (by first | rfl | decide +kernel) (by unfold okT; decide)) (nomark _)) (q_own (by rfl) T.op_Build_sub (A1 18) (T.bd 18 (by decide)) T.opr_Build_sub (A1 19) (T.bd 19 (by decide)) takes_def hr hr hn (q_var 1) (q_var 2)) (q_own (by rfl) T.op_Build_xor (A1 20) (T.bd 20 (by decide)) T.opr_Build_xor (A1 21) (T.bd 21 (by decide)) takes_def hr hr hn (q_var 1) (q_var 2))))))
theorem ok_law_placed (T : Top K mg) {n : Nat} {κ : Kap} (hκ : κ.shown = shownP) (A1 : AllOk P w K mg base (n + 3) κ.fn) (A2 : AllOk P w K mg base (n + 2) κ.ini) (A3 : AllOk P w K mg base n κ.low) : FnG P w K mg base (n + 4) (adr K 33) (fdOf K (adr K 33)) (pst 33) (spG (wd K) (runDef κ d_law_placed)) :=
  fn_def T.d33 sc_law_placed rfl rfl fun cdv A outer s H E hr hn =>
    qs_cons (q_ifS (qt_cmp (op_eqD hr.units) s_eq (q_var 0) (q_str [124] (by first | rfl | decide +kernel) (by unfold okT; decide)) (nomark _)) (qs_one (q_ownAug 1 sc_law_placed.nd (by rfl) T.opi_Build_or T.op_Build_or (A1 14) (T.bd 14 (by decide)) T.opr_Build_or (A1 15) (T.bd 15 (by decide)) hr hr hn (q_var 2))) (qs_one (q_ifS (qt_cmp (op_eqD hr.units) s_eq (q_var 0) (q_str [38] (by first | rfl | decide +kernel) (by unfold okT; decide)) (nomark _)) (qs_one (q_ownAug 1 sc_law_placed.nd (by rfl) T.opi_Build_and T.op_Build_and (A1 16) (T.bd 16 (by decide)) T.opr_Build_and (A1 17) (T.bd 17 (by decide)) hr hr hn (q_var 2))) (qs_one (q_ifS (qt_cmp (op_eqD hr.units) s_eq (q_var 0) (q_str [45] (by first | rfl | decide +kernel) (by unfold okT; decide)) (nomark _)) (qs_one (q_ownAug 1 sc_law_placed.nd (by rfl) T.opi_Build_sub T.op_Build_sub (A1 18) (T.bd 18 (by decide)) T.opr_Build_sub (A1 19) (T.bd 19 (by decide)) hr hr hn (q_var 2))) (qs_one (q_ownAug 1 sc_law_placed.nd (by rfl) T.opi_Build_xor T.op_Build_xor (A1 20) (T.bd 20 (by decide)) T.opr_Build_xor (A1 21) (T.bd 21 (by decide)) hr hr hn (q_var 2)))))))) (
    qs_one (q_ret (q_var 1)))
theorem ok_law_compared (T : Top K mg) {n : Nat} {κ : Kap} (hκ : κ.shown = shownP) (A1 : AllOk P w K mg base (n + 3) κ.fn) (A2 : AllOk P w K mg base (n + 2) κ.ini) (A3 : AllOk P w K mg base n κ.low) : FnG P w K mg base (n + 4) (adr K 34) (fdOf K (adr K 34)) (pst 34) (spG (wd K) (runDef κ d_law_compared)) :=
  fn_def T.d34 sc_law_compared rfl rfl fun cdv A outer s H E hr hn =>
    qs_cons (q_par 4 5 (by rfl) sc_law_compared.nd (q_callB s_all (cr_all (by rfl)) (by rfl) T.f_all (by rfl) (qa_cons (q_lc [("_law_kind", 8)] (by rfl) sc_law_compared.nd (qi_list (by rfl) (q_var 2)) (by exact (show BlkOk ["_law_one", "_law_other", "_law_kinds", "_law_others", "_law_within", "_law_beyond", "_law_told", "_law_alike", "_law_kind"] (defScope st_law_compared) _ _ from ⟨rfl, by decide +kernel, by decide +kernel, by decide +kernel, by decide +kernel⟩)) (fun _ _ _ _ _ => qg_name 8 sc_law_compared.nd (fun _ _ => wipe_own (by decide))) (fun _ _ _ _ _ => qts_nil) (fun _ _ _ _ _ => q_cmp op_inAll s_in (q_var 8) (q_var 3) rfl)) (qa_nil))) (q_callB s_all (cr_all (by rfl)) (by rfl) T.f_all (by rfl) (qa_cons (q_lc [("_law_kind", 8)] (by rfl) sc_law_compared.nd (qi_list (by rfl) (q_var 3)) (by exact (show BlkOk ["_law_one", "_law_other", "_law_kinds", "_law_others", "_law_within", "_law_beyond", "_law_told", "_law_alike", "_law_kind"] (defScope st_law_compared) _ _ from ⟨rfl, by decide +kernel, by decide +kernel, by decide +kernel, by decide +kernel⟩)) (fun _ _ _ _ _ => qg_name 8 sc_law_compared.nd (fun _ _ => wipe_own (by decide))) (fun _ _ _ _ _ => qts_nil) (fun _ _ _ _ _ => q_cmp op_inAll s_in (q_var 8) (q_var 2) rfl)) (qa_nil))) (by rfl)) (
    qs_cons (q_set 6 sc_law_compared.nd (q_lst (qa_cons (q_cmpOwn (fun _ _ => rfl) (by rfl) T.cmp_Build_le (A1 22) (T.bd 22 (by decide)) takes_def hr hn (q_var 0) (q_var 1) (nomark _)) (qa_cons (q_cmpOwn (fun _ _ => rfl) (by rfl) T.cmp_Build_lt (A1 23) (T.bd 23 (by decide)) takes_def hr hn (q_var 0) (q_var 1) (nomark _)) (qa_cons (q_cmpOwn (fun _ _ => rfl) (by rfl) T.cmp_Build_ge (A1 24) (T.bd 24 (by decide)) takes_def hr hn (q_var 0) (q_var 1) (nomark _)) (qa_cons (q_cmpOwn (fun _ _ => rfl) (by rfl) T.cmp_Build_gt (A1 25) (T.bd 25 (by decide)) takes_def hr hn (q_var 0) (q_var 1) (nomark _)) (qa_cons (q_cmpOwn (fun _ _ => rfl) (by rfl) T.cmp_Build_eq (A1 10) (T.bd 10 (by decide)) takes_def hr hn (q_var 0) (q_var 1) (nomark _)) (qa_cons (q_neOwn (by rfl) T.ne_Build T.meth_Build_eq.1 T.meth_Build_eq.2 (T.cls 0).co (A2 10) (T.bd 10 (by decide)) hr hn (q_var 0) (q_var 1)) (qa_nil))))))))) (
    qs_cons (q_set 7 sc_law_compared.nd (q_cmp (op_eqD hr.units) s_eq (q_var 2) (q_var 3) (nomark _))) (
    qs_one (q_ret (q_cmp (op_eqD hr.units) s_eq (q_callB (s_repr hκ) (call_reprD hn (by have := hr.un; omega)) (by rfl) T.f_repr (by rfl) (qa_cons (q_var 6) (qa_nil))) (q_callB (s_repr hκ) (call_reprD hn (by have := hr.un; omega)) (by rfl) T.f_repr (by rfl) (qa_cons (q_lst (qa_cons (q_var 4) (qa_cons (q_and (q_var 4) (q_and1 (q_not (q_var 7)))) (qa_cons (q_var 5) (qa_cons (q_and (q_var 5) (q_and1 (q_not (q_var 7)))) (qa_cons (q_var 7) (qa_cons (q_not (q_var 7)) (qa_nil)))))))) (qa_nil))) (nomark _))))))
theorem ok_law_rows_of (T : Top K mg) {n : Nat} {κ : Kap} (hκ : κ.shown = shownP) (A1 : AllOk P w K mg base (n + 3) κ.fn) (A2 : AllOk P w K mg base (n + 2) κ.ini) (A3 : AllOk P w K mg base n κ.low) : FnG P w K mg base (n + 4) (adr K 35) (fdOf K (adr K 35)) (pst 35) (spG (wd K) (runDef κ d_law_rows_of)) :=
  fn_def T.d35 sc_law_rows_of rfl rfl fun cdv A outer s H E hr hn =>
    qs_cons (q_set 1 sc_law_rows_of.nd (q_call (A1 29) T.g__law_ordered (T.kp 29 (by decide)) (T.bd 29 (by decide)) takes_def hr hn (qa_cons (q_lc [("_law_lap", 4)] (by rfl) sc_law_rows_of.nd (qi_rng1 (by rfl) T.f_range (q_int)) (by exact (show BlkOk ["_law_pot_here", "_law_names", "_law_made", "_law_dues", "_law_lap", "_law_due_here", "_law_word_here", "_law_way", "_law_at", "_law_beside", "_law_name", "_law_told", "_law_one"] (defScope st_law_rows_of) _ _ from ⟨rfl, by decide +kernel, by decide +kernel, by decide +kernel, by decide +kernel⟩)) (fun _ _ _ _ _ => qg_name 4 sc_law_rows_of.nd (fun _ _ => wipe_own (by decide))) (fun _ _ _ _ _ => qts_nil) (fun _ _ _ _ _ => q_call (A1 30) T.g__law_word (T.kp 30 (by decide)) (T.bd 30 (by decide)) takes_none hr hn (qa_cons (q_var 0) (qa_nil)))) (qa_nil)))) (
    qs_cons (q_par 2 3 (by rfl) sc_law_rows_of.nd (q_lst (qa_nil)) (q_lst (qa_nil)) (by rfl)) (
    qs_cons (q_for passes_def (by rfl) (qi_rng1 (by rfl) T.f_range (q_int)) (qg_name 4 sc_law_rows_of.nd) (qs_cons (q_setLc 5 [("_law_name", 10)] (by rfl) sc_law_rows_of.nd (by rfl) (qi_list (by rfl) (q_var 1)) (by exact (show BlkOk ["_law_pot_here", "_law_names", "_law_made", "_law_dues", "_law_lap", "_law_due_here", "_law_word_here", "_law_way", "_law_at", "_law_beside", "_law_name", "_law_told", "_law_one"] (defScope st_law_rows_of) _ _ from ⟨rfl, by decide +kernel, by decide +kernel, by decide +kernel, by decide +kernel⟩)) (fun _ _ _ _ _ => qg_name 10 sc_law_rows_of.nd (fun _ _ => wipe_own (by decide))) (fun _ _ _ _ _ => qts_one (qt_cmp (op_eqD hr.units) s_eq (q_call (A1 27) T.g__law_take (T.kp 27 (by decide)) (T.bd 27 (by decide)) takes_none hr hn (qa_cons (q_var 0) (qa_cons (q_int) (qa_nil)))) (q_int) (nomark _))) (fun _ _ _ _ _ => q_var 10)) (
    qs_cons (q_expr (q_append (by rfl) (q_var 2) (q_new (W := wd K) (c := 0) (f := adr K 8) T.mk_Build (A2 8) T.g_Build (T.bd 8 (by decide)) takes_def hr hn (qa_cons (q_callTy s_tuple call_tuple_of (by rfl) T.f_tuple (by rfl) (qa_cons (q_var 5) (qa_nil))) (qa_nil))))) (
    qs_one (q_expr (q_append (by rfl) (q_var 3) (q_var 5))))))) (
    qs_cons (q_for passes_def (by rfl) (qi_rng1 (by rfl) T.f_range (q_int)) (qg_name 4 sc_law_rows_of.nd) (qs_cons (q_par 6 7 (by rfl) sc_law_rows_of.nd (q_call (A1 28) T.g__law_of (T.kp 28 (by decide)) (T.bd 28 (by decide)) takes_def hr hn (qa_cons (q_var 0) (qa_cons (q_lst (qa_cons (q_str [124] (by first | rfl | decide +kernel) (by unfold okT; decide)) (qa_cons (q_str [38] (by first | rfl | decide +kernel) (by unfold okT; decide)) (qa_cons (q_str [45] (by first | rfl | decide +kernel) (by unfold okT; decide)) (qa_cons (q_str [94] (by first | rfl | decide +kernel) (by unfold okT; decide)) (qa_nil)))))) (qa_nil)))) (q_call (A1 27) T.g__law_take (T.kp 27 (by decide)) (T.bd 27 (by decide)) takes_def hr hn (qa_cons (q_var 0) (qa_cons (q_int) (qa_nil)))) (by rfl)) (
    qs_cons (q_par3 8 9 10 (by rfl) sc_law_rows_of.nd (q_call (A1 27) T.g__law_take (T.kp 27 (by decide)) (T.bd 27 (by decide)) takes_def hr hn (qa_cons (q_var 0) (qa_cons (q_callB s_len call_len (by rfl) T.f_len (by rfl) (qa_cons (q_var 2) (qa_nil))) (qa_nil)))) (q_call (A1 27) T.g__law_take (T.kp 27 (by decide)) (T.bd 27 (by decide)) takes_def hr hn (qa_cons (q_var 0) (qa_cons (q_callB s_len call_len (by rfl) T.f_len (by rfl) (qa_cons (q_var 2) (qa_nil))) (qa_nil)))) (q_call (A1 28) T.g__law_of (T.kp 28 (by decide)) (T.bd 28 (by decide)) takes_def hr hn (qa_cons (q_var 0) (qa_cons (q_var 1) (qa_nil)))) (by rfl)) (
    qs_cons (q_ifS (qt_cmp (op_eqD hr.units) s_eq (q_var 7) (q_int) (nomark _)) (qs_one (q_par 11 5 (by rfl) sc_law_rows_of.nd (q_call (A1 32) T.g__law_by (T.kp 32 (by decide)) (T.bd 32 (by decide)) takes_def hr hn (qa_cons (q_var 6) (qa_cons (q_var 10) (qa_cons (q_item (by rfl) (q_var 2) (q_var 8)) (qa_nil))))) (q_call (A1 31) T.g__law_due (T.kp 31 (by decide)) (T.bd 31 (by decide)) takes_def hr hn (qa_cons (q_var 6) (qa_cons (q_lst (qa_cons (q_var 10) (qa_nil))) (qa_cons (q_item (by rfl) (q_var 3) (q_var 8)) (qa_nil))))) (by rfl))) (qs_one (q_ifS (qt_cmp (op_eqD hr.units) s_eq (q_var 7) (q_int) (nomark _)) (qs_one (q_par 11 5 (by rfl) sc_law_rows_of.nd (q_call (A1 32) T.g__law_by (T.kp 32 (by decide)) (T.bd 32 (by decide)) takes_def hr hn (qa_cons (q_var 6) (qa_cons (q_item (by rfl) (q_var 2) (q_var 8)) (qa_cons (q_var 10) (qa_nil))))) (q_call (A1 31) T.g__law_due (T.kp 31 (by decide)) (T.bd 31 (by decide)) takes_def hr hn (qa_cons (q_var 6) (qa_cons (q_item (by rfl) (q_var 3) (q_var 8)) (qa_cons (q_lst (qa_cons (q_var 10) (qa_nil))) (qa_nil))))) (by rfl))) (qs_one (q_ifS (qt_cmp (op_eqD hr.units) s_eq (q_var 7) (q_int) (nomark _)) (qs_one (q_par 11 5 (by rfl) sc_law_rows_of.nd (q_call (A1 33) T.g__law_placed (T.kp 33 (by decide)) (T.bd 33 (by decide)) takes_def hr hn (qa_cons (q_var 6) (qa_cons (q_item (by rfl) (q_var 2) (q_var 8)) (qa_cons (q_var 10) (qa_nil))))) (q_call (A1 31) T.g__law_due (T.kp 31 (by decide)) (T.bd 31 (by decide)) takes_def hr hn (qa_cons (q_var 6) (qa_cons (q_item (by rfl) (q_var 3) (q_var 8)) (qa_cons (q_lst (qa_cons (q_var 10) (qa_nil))) (qa_nil))))) (by rfl))) (qs_one (q_ifS (qt_cmp (op_eqD hr.units) s_eq (q_var 7) (q_int) (nomark _)) (qs_one (q_par 11 5 (by rfl) sc_law_rows_of.nd (q_call (A1 33) T.g__law_placed (T.kp 33 (by decide)) (T.bd 33 (by decide)) takes_def hr hn (qa_cons (q_var 6) (qa_cons (q_item (by rfl) (q_var 2) (q_var 8)) (qa_cons (q_item (by rfl) (q_var 2) (q_var 9)) (qa_nil))))) (q_call (A1 31) T.g__law_due (T.kp 31 (by decide)) (T.bd 31 (by decide)) takes_def hr hn (qa_cons (q_var 6) (qa_cons (q_item (by rfl) (q_var 3) (q_var 8)) (qa_cons (q_item (by rfl) (q_var 3) (q_var 9)) (qa_nil))))) (by rfl))) (qs_one (q_par 11 5 (by rfl) sc_law_rows_of.nd (q_call (A1 32) T.g__law_by (T.kp 32 (by decide)) (T.bd 32 (by decide)) takes_def hr hn (qa_cons (q_var 6) (qa_cons (q_item (by rfl) (q_var 2) (q_var 8)) (qa_cons (q_item (by rfl) (q_var 2) (q_var 9)) (qa_nil))))) (q_call (A1 31) T.g__law_due (T.kp 31 (by decide)) (T.bd 31 (by decide)) takes_def hr hn (qa_cons (q_var 6) (qa_cons (q_item (by rfl) (q_var 3) (q_var 8)) (qa_cons (q_item (by rfl) (q_var 3) (q_var 9)) (qa_nil))))) (by rfl)))))))))) (
    qs_cons (q_ifS (qt_not (qt_e (by rfl) (q_isa (W := wd K) (by rfl) T.cls T.isa_Build (.own _) (by rfl) T.f_isinstance (q_var 11) (pe_glob (by rfl) T.g_Build rfl)))) (qs_one (q_ret (q_bl))) (qs_nil)) (
    qs_cons (q_expr (q_append (by rfl) (q_var 2) (q_var 11))) (
    qs_cons (q_expr (q_append (by rfl) (q_var 3) (q_var 5))) (
    qs_cons (q_ifS (qt_cmp (op_neD hr.units) s_ne (q_callB (s_repr hκ) (call_reprD hn (by have := hr.un; omega)) (by rfl) T.f_repr (by rfl) (qa_cons (q_lc [("_law_one", 12)] (by rfl) sc_law_rows_of.nd (qi_list (by rfl) (q_var 2)) (by exact (show BlkOk ["_law_pot_here", "_law_names", "_law_made", "_law_dues", "_law_lap", "_law_due_here", "_law_word_here", "_law_way", "_law_at", "_law_beside", "_law_name", "_law_told", "_law_one"] (defScope st_law_rows_of) _ _ from ⟨rfl, by decide +kernel, by decide +kernel, by decide +kernel, by decide +kernel⟩)) (fun _ _ _ _ _ => qg_name 12 sc_law_rows_of.nd (fun _ _ => wipe_own (by decide))) (fun _ _ _ _ _ => qts_nil) (fun _ _ _ _ _ => q_prop (f := adr K 9) (by rfl) (T.cls 0).cl T.prop_Build_kinds (A2 9) (T.bd 9 (by decide)) hr hn (q_var 12))) (qa_nil))) (q_callB (s_repr hκ) (call_reprD hn (by have := hr.un; omega)) (by rfl) T.f_repr (by rfl) (qa_cons (q_lc [("_law_one", 12)] (by rfl) sc_law_rows_of.nd (qi_list (by rfl) (q_var 3)) (by exact (show BlkOk ["_law_pot_here", "_law_names", "_law_made", "_law_dues", "_law_lap", "_law_due_here", "_law_word_here", "_law_way", "_law_at", "_law_beside", "_law_name", "_law_told", "_law_one"] (defScope st_law_rows_of) _ _ from ⟨rfl, by decide +kernel, by decide +kernel, by decide +kernel, by decide +kernel⟩)) (fun _ _ _ _ _ => qg_name 12 sc_law_rows_of.nd (fun _ _ => wipe_own (by decide))) (fun _ _ _ _ _ => qts_nil) (fun _ _ _ _ _ => q_callTy s_tuple call_tuple_of (by rfl) T.f_tuple (by rfl) (qa_cons (q_var 12) (qa_nil)))) (qa_nil))) (nomark _)) (qs_one (q_ret (q_bl))) (qs_nil)) (
    qs_cons (q_par 8 9 (by rfl) sc_law_rows_of.nd (q_call (A1 27) T.g__law_take (T.kp 27 (by decide)) (T.bd 27 (by decide)) takes_def hr hn (qa_cons (q_var 0) (qa_cons (q_callB s_len call_len (by rfl) T.f_len (by rfl) (qa_cons (q_var 2) (qa_nil))) (qa_nil)))) (q_call (A1 27) T.g__law_take (T.kp 27 (by decide)) (T.bd 27 (by decide)) takes_def hr hn (qa_cons (q_var 0) (qa_cons (q_callB s_len call_len (by rfl) T.f_len (by rfl) (qa_cons (q_var 2) (qa_nil))) (qa_nil)))) (by rfl)) (
    qs_cons (q_ifS (qt_not (qt_e (by rfl) (q_call (A1 34) T.g__law_compared (T.kp 34 (by decide)) (T.bd 34 (by decide)) takes_def hr hn (qa_cons (q_item (by rfl) (q_var 2) (q_var 8)) (qa_cons (q_item (by rfl) (q_var 2) (q_var 9)) (qa_cons (q_item (by rfl) (q_var 3) (q_var 8)) (qa_cons (q_item (by rfl) (q_var 3) (q_var 9)) (qa_nil)))))))) (qs_one (q_ret (q_bl))) (qs_nil)) (
    qs_one (q_ifS (qt_cmp (op_neD hr.units) s_ne (q_callB (s_repr hκ) (call_reprD hn (by have := hr.un; omega)) (by rfl) T.f_repr (by rfl) (qa_cons (q_lst (qa_cons (q_inOwn (by rfl) T.meth_Build_contains.1 T.meth_Build_contains.2 (A1 11) (T.bd 11 (by decide)) takes_def hr hn (q_var 10) (q_var 11) rfl) (qa_cons (q_absOwn (by rfl) rfl T.meth_Build_abs.1 T.meth_Build_abs.2 (A3 12) (T.bd 12 (by decide)) hr hn (by rfl) T.f_abs (qa_cons (q_var 11) (qa_nil))) (qa_cons (q_boolOwn (by rfl) rfl T.meth_Build_bool.1 T.meth_Build_bool.2 (A3 13) (T.bd 13 (by decide)) hr hn (by rfl) T.f_bool (qa_cons (q_var 11) (qa_nil))) (qa_nil))))) (qa_nil))) (q_callB (s_repr hκ) (call_reprD hn (by have := hr.un; omega)) (by rfl) T.f_repr (by rfl) (qa_cons (q_lst (qa_cons (q_cmp op_inAll s_in (q_var 10) (q_var 5) rfl) (qa_cons (q_callB s_len call_len (by rfl) T.f_len (by rfl) (qa_cons (q_var 5) (qa_nil))) (qa_cons (q_cmp op_gt s_gt (q_callB s_len call_len (by rfl) T.f_len (by rfl) (qa_cons (q_var 5) (qa_nil))) (q_int) (nomark _)) (qa_nil))))) (qa_nil))) (nomark _)) (qs_one (q_ret (q_bl))) (qs_nil))))))))))))) (
    qs_one (q_ret (q_bl))))))
theorem ok_law (T : Top K mg) {n : Nat} {κ : Kap} (hκ : κ.shown = shownP) (A1 : AllOk P w K mg base (n + 3) κ.fn) (A2 : AllOk P w K mg base (n + 2) κ.ini) (A3 : AllOk P w K mg base n κ.low) : FnG P w K mg base (n + 4) (adr K 36) (fdOf K (adr K 36)) (pst 36) (spG (wd K) (runDef κ d_law)) :=
  fn_def T.d36 sc_law rfl rfl fun cdv A outer s H E hr hn =>
    qs_cons (q_for passes_def (by rfl) (qi_rng1 (by rfl) T.f_range (q_callB s_max (call_max2 (by rfl)) (by rfl) T.f_max (by rfl) (qa_cons (q_int) (qa_cons (q_callB s_min (call_min2 (by rfl)) (by rfl) T.f_min (by rfl) (qa_cons (q_callB s_len call_len (by rfl) T.f_len (by rfl) (qa_cons (q_var 0) (qa_nil))) (qa_cons (q_int) (qa_nil)))) (qa_nil))))) (qg_name 1 sc_law.nd) (qs_one (q_ifS (qt_not (qt_e (by rfl) (q_call (A1 35) T.g__law_rows_of (T.kp 35 (by decide)) (T.bd 35 (by decide)) takes_def hr hn (qa_cons (q_call (A1 26) T.g__law_pot (T.kp 26 (by decide)) (T.bd 26 (by decide)) takes_def hr hn (qa_cons (q_var 0) (qa_cons (q_var 1) (qa_nil)))) (qa_nil))))) (qs_one (q_ret (q_bl))) (qs_nil)))) (
    qs_one (q_ret (q_bl)))
theorem all_ok (T : Top K mg) (n : Nat) : AllOk P w K mg base n (callF (prog shownP) n) := levels (prog shownP) (fun n i d e A1 A2 A3 => match i, e with
  | 0, e => by cases e; exact ok_is_name T rfl A1 A2 A3
  | 1, e => by cases e; exact ok_is_ascending T rfl A1 A2 A3
  | 2, e => by cases e; exact ok_merged T rfl A1 A2 A3
  | 3, e => by cases e; exact ok_in_order T rfl A1 A2 A3
  | 4, e => by cases e; exact ok_are_kinds T rfl A1 A2 A3
  | 5, e => by cases e; exact ok_kinds_of T rfl A1 A2 A3
  | 6, e => by cases e; exact ok_kinds_without T rfl A1 A2 A3
  | 7, e => by cases e; exact ok_build_with T rfl A1 A2 A3
  | 8, e => by cases e; exact ok_Build_init T rfl A1 A2 A3
  | 9, e => by cases e; exact ok_Build_kinds T rfl A1 A2 A3
  | 10, e => by cases e; exact ok_Build_eq T rfl A1 A2 A3
  | 11, e => by cases e; exact ok_Build_contains T rfl A1 A2 A3
  | 12, e => by cases e; exact ok_Build_abs T rfl A1 A2 A3
  | 13, e => by cases e; exact ok_Build_bool T rfl A1 A2 A3
  | 14, e => by cases e; exact ok_Build_or T rfl A1 A2 A3
  | 15, e => by cases e; exact ok_Build_ror T rfl A1 A2 A3
  | 16, e => by cases e; exact ok_Build_and T rfl A1 A2 A3
  | 17, e => by cases e; exact ok_Build_rand T rfl A1 A2 A3
  | 18, e => by cases e; exact ok_Build_sub T rfl A1 A2 A3
  | 19, e => by cases e; exact ok_Build_rsub T rfl A1 A2 A3
  | 20, e => by cases e; exact ok_Build_xor T rfl A1 A2 A3
  | 21, e => by cases e; exact ok_Build_rxor T rfl A1 A2 A3
  | 22, e => by cases e; exact ok_Build_le T rfl A1 A2 A3
  | 23, e => by cases e; exact ok_Build_lt T rfl A1 A2 A3
  | 24, e => by cases e; exact ok_Build_ge T rfl A1 A2 A3
  | 25, e => by cases e; exact ok_Build_gt T rfl A1 A2 A3
  | 26, e => by cases e; exact ok_law_pot T rfl A1 A2 A3
  | 27, e => by cases e; exact ok_law_take T rfl A1 A2 A3
  | 28, e => by cases e; exact ok_law_of T rfl A1 A2 A3
  | 29, e => by cases e; exact ok_law_ordered T rfl A1 A2 A3
  | 30, e => by cases e; exact ok_law_word T rfl A1 A2 A3
  | 31, e => by cases e; exact ok_law_due T rfl A1 A2 A3
  | 32, e => by cases e; exact ok_law_by T rfl A1 A2 A3
  | 33, e => by cases e; exact ok_law_placed T rfl A1 A2 A3
  | 34, e => by cases e; exact ok_law_compared T rfl A1 A2 A3
  | 35, e => by cases e; exact ok_law_rows_of T rfl A1 A2 A3
  | 36, e => by cases e; exact ok_law T rfl A1 A2 A3
  | _ + 37, e => nomatch e) n
end
end K01
end

section
set_option Elab.async false
set_option linter.all false
set_option autoImplicit false
set_option maxRecDepth 100000
set_option maxHeartbeats 0
/-! the head: the top run once; what it tells (printed by gen.py) -/
namespace K01
open PySem PySem.Spec PyProof.Rows L2 IR He
theorem sub_top : ∀ c d, 0 ≤ c → sub c d = sub 0 d := by
  intro c d h
  unfold sub
  rw [Nat.min_eq_right h, Nat.min_self]
def fnl : List DefA := [
  ⟨fun K => adr K 0, "is_name", "is_name", defArgs st_is_name, defBody st_is_name, defScope st_is_name⟩,
  ⟨fun K => adr K 1, "is_ascending", "is_ascending", defArgs st_is_ascending, defBody st_is_ascending, defScope st_is_ascending⟩,
  ⟨fun K => adr K 2, "merged", "merged", defArgs st_merged, defBody st_merged, defScope st_merged⟩,
  ⟨fun K => adr K 3, "in_order", "in_order", defArgs st_in_order, defBody st_in_order, defScope st_in_order⟩,
  ⟨fun K => adr K 4, "are_kinds", "are_kinds", defArgs st_are_kinds, defBody st_are_kinds, defScope st_are_kinds⟩,
  ⟨fun K => adr K 5, "kinds_of", "kinds_of", defArgs st_kinds_of, defBody st_kinds_of, defScope st_kinds_of⟩,
  ⟨fun K => adr K 6, "kinds_without", "kinds_without", defArgs st_kinds_without, defBody st_kinds_without, defScope st_kinds_without⟩,
  ⟨fun K => adr K 7, "build_with", "build_with", defArgs st_build_with, defBody st_build_with, defScope st_build_with⟩,
  ⟨fun K => adr K 8, "__init__", "Build.__init__", defArgs st_Build_init, defBody st_Build_init, defScope st_Build_init⟩,
  ⟨fun K => adr K 9, "kinds", "Build.kinds", defArgs st_Build_kinds, defBody st_Build_kinds, defScope st_Build_kinds⟩,
  ⟨fun K => adr K 10, "__eq__", "Build.__eq__", defArgs st_Build_eq, defBody st_Build_eq, defScope st_Build_eq⟩,
  ⟨fun K => adr K 11, "__contains__", "Build.__contains__", defArgs st_Build_contains, defBody st_Build_contains, defScope st_Build_contains⟩,
  ⟨fun K => adr K 12, "__abs__", "Build.__abs__", defArgs st_Build_abs, defBody st_Build_abs, defScope st_Build_abs⟩,
  ⟨fun K => adr K 13, "__bool__", "Build.__bool__", defArgs st_Build_bool, defBody st_Build_bool, defScope st_Build_bool⟩,
  ⟨fun K => adr K 14, "__or__", "Build.__or__", defArgs st_Build_or, defBody st_Build_or, defScope st_Build_or⟩,
  ⟨fun K => adr K 15, "__ror__", "Build.__ror__", defArgs st_Build_ror, defBody st_Build_ror, defScope st_Build_ror⟩,
  ⟨fun K => adr K 16, "__and__", "Build.__and__", defArgs st_Build_and, defBody st_Build_and, defScope st_Build_and⟩,
  ⟨fun K => adr K 17, "__rand__", "Build.__rand__", defArgs st_Build_rand, defBody st_Build_rand, defScope st_Build_rand⟩,
  ⟨fun K => adr K 18, "__sub__", "Build.__sub__", defArgs st_Build_sub, defBody st_Build_sub, defScope st_Build_sub⟩,
  ⟨fun K => adr K 19, "__rsub__", "Build.__rsub__", defArgs st_Build_rsub, defBody st_Build_rsub, defScope st_Build_rsub⟩,
  ⟨fun K => adr K 20, "__xor__", "Build.__xor__", defArgs st_Build_xor, defBody st_Build_xor, defScope st_Build_xor⟩,
  ⟨fun K => adr K 21, "__rxor__", "Build.__rxor__", defArgs st_Build_rxor, defBody st_Build_rxor, defScope st_Build_rxor⟩,
  ⟨fun K => adr K 22, "__le__", "Build.__le__", defArgs st_Build_le, defBody st_Build_le, defScope st_Build_le⟩,
  ⟨fun K => adr K 23, "__lt__", "Build.__lt__", defArgs st_Build_lt, defBody st_Build_lt, defScope st_Build_lt⟩,
  ⟨fun K => adr K 24, "__ge__", "Build.__ge__", defArgs st_Build_ge, defBody st_Build_ge, defScope st_Build_ge⟩,
  ⟨fun K => adr K 25, "__gt__", "Build.__gt__", defArgs st_Build_gt, defBody st_Build_gt, defScope st_Build_gt⟩,
  ⟨fun K => adr K 26, "_law_pot", "_law_pot", defArgs st_law_pot, defBody st_law_pot, defScope st_law_pot⟩,
  ⟨fun K => adr K 27, "_law_take", "_law_take", defArgs st_law_take, defBody st_law_take, defScope st_law_take⟩,
  ⟨fun K => adr K 28, "_law_of", "_law_of", defArgs st_law_of, defBody st_law_of, defScope st_law_of⟩,
  ⟨fun K => adr K 29, "_law_ordered", "_law_ordered", defArgs st_law_ordered, defBody st_law_ordered, defScope st_law_ordered⟩,
  ⟨fun K => adr K 30, "_law_word", "_law_word", defArgs st_law_word, defBody st_law_word, defScope st_law_word⟩,
  ⟨fun K => adr K 31, "_law_due", "_law_due", defArgs st_law_due, defBody st_law_due, defScope st_law_due⟩,
  ⟨fun K => adr K 32, "_law_by", "_law_by", defArgs st_law_by, defBody st_law_by, defScope st_law_by⟩,
  ⟨fun K => adr K 33, "_law_placed", "_law_placed", defArgs st_law_placed, defBody st_law_placed, defScope st_law_placed⟩,
  ⟨fun K => adr K 34, "_law_compared", "_law_compared", defArgs st_law_compared, defBody st_law_compared, defScope st_law_compared⟩,
  ⟨fun K => adr K 35, "_law_rows_of", "_law_rows_of", defArgs st_law_rows_of, defBody st_law_rows_of, defScope st_law_rows_of⟩,
  ⟨fun K => adr K 36, "law", "law", defArgs st_law, defBody st_law, defScope st_law⟩]
def exB (K : PySem.W.Frag) : List Bool := [
  (Fa.glo "Build").ok K,
  (Fa.glo "_law_by").ok K,
  (Fa.glo "_law_compared").ok K,
  (Fa.glo "_law_due").ok K,
  (Fa.glo "_law_of").ok K,
  (Fa.glo "_law_ordered").ok K,
  (Fa.glo "_law_placed").ok K,
  (Fa.glo "_law_pot").ok K,
  (Fa.glo "_law_rows_of").ok K,
  (Fa.glo "_law_take").ok K,
  (Fa.glo "_law_word").ok K,
  (Fa.glo "are_kinds").ok K,
  (Fa.glo "build_with").ok K,
  (Fa.glo "in_order").ok K,
  (Fa.glo "is_ascending").ok K,
  (Fa.glo "is_name").ok K,
  (Fa.glo "kinds_of").ok K,
  (Fa.glo "kinds_without").ok K,
  (Fa.glo "law").ok K,
  (Fa.glo "merged").ok K,
  (Fa.free "abs").ok K,
  (Fa.free "all").ok K,
  (Fa.free "bool").ok K,
  (Fa.free "int").ok K,
  (Fa.free "isinstance").ok K,
  (Fa.free "len").ok K,
  (Fa.free "max").ok K,
  (Fa.free "min").ok K,
  (Fa.free "range").ok K,
  (Fa.free "repr").ok K,
  (Fa.free "str").ok K,
  (Fa.free "tuple").ok K,
  (Fa.free "zip").ok K,
  (Fa.str "LETTERS" "abcdefghijklmnopqrstuvwxyz").ok K,
  (Fa.int "MOST_LETTERS" 8).ok K,
  ((Fa.glo "TAKEN_WORDS").ok K && tupB K "TAKEN_WORDS" [.str "next", .str "more", .str "not", .str "same", .str "less", .str "and", .str "or"]),
  (List.range 1).all (fun c => clsB K (clN c)),
  cmpB K (ga K "Build") (adr K 10) "__eq__",
  cmpB K (ga K "Build") (adr K 24) "__ge__",
  cmpB K (ga K "Build") (adr K 25) "__gt__",
  cmpB K (ga K "Build") (adr K 22) "__le__",
  cmpB K (ga K "Build") (adr K 23) "__lt__",
  (List.range 1).all fun c => (Fa.noat (clN c) (Str.ofString "own_kinds")).ok K,
  isaB (wd K) 0 sub (.own 0) (.ref (ga K "Build")),
  isaB (wd K) 0 sub .tStr (.type "str"),
  isaB (wd K) 0 sub .tTuple (.type "tuple"),
  methB K (ga K "Build") (adr K 12) (Str.ofString "__abs__"),
  methB K (ga K "Build") (adr K 13) (Str.ofString "__bool__"),
  methB K (ga K "Build") (adr K 11) (Str.ofString "__contains__"),
  methB K (ga K "Build") (adr K 10) (Str.ofString "__eq__"),
  (Fa.mkr "Build").ok K,
  eqO (PySem.W.findIn K (.ref (ga K "Build")) (Str.ofString "__ne__")) (some (some (.builtin "object.__ne__"))),
  opB K (ga K "Build") (adr K 16) "and",
  opB K (ga K "Build") (adr K 14) "or",
  opB K (ga K "Build") (adr K 18) "sub",
  opB K (ga K "Build") (adr K 20) "xor",
  opIB K (ga K "Build") "and",
  opIB K (ga K "Build") "or",
  opIB K (ga K "Build") "sub",
  opIB K (ga K "Build") "xor",
  opRB K (ga K "Build") (adr K 17) "and",
  opRB K (ga K "Build") (adr K 15) "or",
  opRB K (ga K "Build") (adr K 19) "sub",
  opRB K (ga K "Build") (adr K 21) "xor",
  propB K (ga K "Build") (ma K (ga K "Build") "kinds") "kinds"]
def ex (K : PySem.W.Frag) : Bool := (exB K).all id
theorem cls_all {K : PySem.W.Frag} (h : ((List.range 1).all fun c => clsB K (clN c)) = true) : ∀ c, ClsOk (wd K) c := by
  intro c
  by_cases hc : c < 1
  · exact clsB_ok rfl (List.all_eq_true.mp h c (List.mem_range.mpr hc))
  · exact clsB_ok (clN_top c (by omega)) (List.all_eq_true.mp h 0 (List.mem_range.mpr (by omega)))
theorem exAt {K : PySem.W.Frag} (h : ex K = true) (i : Nat) {b : Bool} (e : (exB K)[i]? = some b) : b = true := List.all_eq_true.mp h b (List.mem_of_getElem? e)
theorem top_ok {K : PySem.W.Frag} {hp : PySem.Heap} {mg : Str → Option Value} (X : K.In hp) (G : hp.Ns mainGlobals mg) (c : SaysP fnl ex K) : Top K mg where
  d0 := c.def_ 0
  d1 := c.def_ 1
  d2 := c.def_ 2
  d3 := c.def_ 3
  d4 := c.def_ 4
  d5 := c.def_ 5
  d6 := c.def_ 6
  d7 := c.def_ 7
  d8 := c.def_ 8
  d9 := c.def_ 9
  d10 := c.def_ 10
  d11 := c.def_ 11
  d12 := c.def_ 12
  d13 := c.def_ 13
  d14 := c.def_ 14
  d15 := c.def_ 15
  d16 := c.def_ 16
  d17 := c.def_ 17
  d18 := c.def_ 18
  d19 := c.def_ 19
  d20 := c.def_ 20
  d21 := c.def_ 21
  d22 := c.def_ 22
  d23 := c.def_ 23
  d24 := c.def_ 24
  d25 := c.def_ 25
  d26 := c.def_ 26
  d27 := c.def_ 27
  d28 := c.def_ 28
  d29 := c.def_ 29
  d30 := c.def_ 30
  d31 := c.def_ 31
  d32 := c.def_ 32
  d33 := c.def_ 33
  d34 := c.def_ 34
  d35 := c.def_ 35
  d36 := c.def_ 36
  g_Build := glo_ok X G (exAt c.ex 0 rfl)
  g__law_by := glo_ok X G (exAt c.ex 1 rfl)
  g__law_compared := glo_ok X G (exAt c.ex 2 rfl)
  g__law_due := glo_ok X G (exAt c.ex 3 rfl)
  g__law_of := glo_ok X G (exAt c.ex 4 rfl)
  g__law_ordered := glo_ok X G (exAt c.ex 5 rfl)
  g__law_placed := glo_ok X G (exAt c.ex 6 rfl)
  g__law_pot := glo_ok X G (exAt c.ex 7 rfl)
  g__law_rows_of := glo_ok X G (exAt c.ex 8 rfl)
  g__law_take := glo_ok X G (exAt c.ex 9 rfl)
  g__law_word := glo_ok X G (exAt c.ex 10 rfl)
  g_are_kinds := glo_ok X G (exAt c.ex 11 rfl)
  g_build_with := glo_ok X G (exAt c.ex 12 rfl)
  g_in_order := glo_ok X G (exAt c.ex 13 rfl)
  g_is_ascending := glo_ok X G (exAt c.ex 14 rfl)
  g_is_name := glo_ok X G (exAt c.ex 15 rfl)
  g_kinds_of := glo_ok X G (exAt c.ex 16 rfl)
  g_kinds_without := glo_ok X G (exAt c.ex 17 rfl)
  g_law := glo_ok X G (exAt c.ex 18 rfl)
  g_merged := glo_ok X G (exAt c.ex 19 rfl)
  f_abs := free_ok X G (exAt c.ex 20 rfl)
  f_all := free_ok X G (exAt c.ex 21 rfl)
  f_bool := free_ok X G (exAt c.ex 22 rfl)
  f_int := free_ok X G (exAt c.ex 23 rfl)
  f_isinstance := free_ok X G (exAt c.ex 24 rfl)
  f_len := free_ok X G (exAt c.ex 25 rfl)
  f_max := free_ok X G (exAt c.ex 26 rfl)
  f_min := free_ok X G (exAt c.ex 27 rfl)
  f_range := free_ok X G (exAt c.ex 28 rfl)
  f_repr := free_ok X G (exAt c.ex 29 rfl)
  f_str := free_ok X G (exAt c.ex 30 rfl)
  f_tuple := free_ok X G (exAt c.ex 31 rfl)
  f_zip := free_ok X G (exAt c.ex 32 rfl)
  c_LETTERS := strC X G (by first | rfl | decide +kernel) (by unfold okT; decide) (exAt c.ex 33 rfl)
  c_MOST_LETTERS := intC X G (exAt c.ex 34 rfl)
  c_TAKEN_WORDS := tupC X G (by intro α H; repeat (first | exact reps_nil | refine reps_int ?_ | refine reps_str (by first | rfl | decide +kernel) (by unfold okT; decide) ?_)) (exAt c.ex 35 rfl)
  cls := cls_all (exAt c.ex 36 rfl)
  cmp_Build_eq := cmpB_ok (exAt c.ex 37 rfl)
  cmp_Build_ge := cmpB_ok (exAt c.ex 38 rfl)
  cmp_Build_gt := cmpB_ok (exAt c.ex 39 rfl)
  cmp_Build_le := cmpB_ok (exAt c.ex 40 rfl)
  cmp_Build_lt := cmpB_ok (exAt c.ex 41 rfl)
  na_own_kinds := na_ok (exAt c.ex 42 rfl)
  isa_Build := isaB_ok clN_top sub_top (exAt c.ex 43 rfl)
  isa_str := isaB_ok clN_top sub_top (exAt c.ex 44 rfl)
  isa_tuple := isaB_ok clN_top sub_top (exAt c.ex 45 rfl)
  meth_Build_abs := methB_ok (exAt c.ex 46 rfl)
  meth_Build_bool := methB_ok (exAt c.ex 47 rfl)
  meth_Build_contains := methB_ok (exAt c.ex 48 rfl)
  meth_Build_eq := methB_ok (exAt c.ex 49 rfl)
  mk_Build := mkr_ok (exAt c.ex 50 rfl)
  ne_Build := eqO_ok (exAt c.ex 51 rfl)
  op_Build_and := opB_ok (exAt c.ex 52 rfl)
  op_Build_or := opB_ok (exAt c.ex 53 rfl)
  op_Build_sub := opB_ok (exAt c.ex 54 rfl)
  op_Build_xor := opB_ok (exAt c.ex 55 rfl)
  opi_Build_and := opIB_ok (exAt c.ex 56 rfl)
  opi_Build_or := opIB_ok (exAt c.ex 57 rfl)
  opi_Build_sub := opIB_ok (exAt c.ex 58 rfl)
  opi_Build_xor := opIB_ok (exAt c.ex 59 rfl)
  opr_Build_and := opRB_ok (exAt c.ex 60 rfl)
  opr_Build_or := opRB_ok (exAt c.ex 61 rfl)
  opr_Build_sub := opRB_ok (exAt c.ex 62 rfl)
  opr_Build_xor := opRB_ok (exAt c.ex 63 rfl)
  prop_Build_kinds := propB_ok (exAt c.ex 64 rfl)
abbrev R : PySem.W.OpenRow := PySem.W.OpenLaw.row PySem.Challenge.rw_sparedlines_k01_builds_by_rows_of_operat
abbrev hk : PySem.W.Hook := hookP 7 fnl ex
def ob (s : PySem.W.SharedT) : AlP := obsP 7 fnl ex (HandSHeadRun.getT s)
theorem ob_eq (s : PySem.W.SharedT) : ob s = hk.obs s.abs := obsP_eq (HandSHeadRun.getT_eq s)
def loose0 : List Str := ["_wall", "SparedError", "BadKinds", "LETTERS", "TAKEN_WORDS", "MOST_LETTERS", "is_name", "is_ascending", "merged", "in_order", "are_kinds", "kinds_of", "kinds_without", "build_with", "Build", "_law_pot", "_law_take", "_law_of", "_law_ordered", "_law_word", "_law_due", "_law_by", "_law_placed", "_law_compared", "_law_rows_of"]
abbrev loose : List Str := loose0
theorem run (w : World) : HandSHeadRun.RunEq R (PySem.W.view R.prog [29]) hk ob 4000 loose w := by
  intro os
  kernel_rfl
end K01
end

section
set_option Elab.async false
set_option linter.all false
set_option autoImplicit false
set_option maxRecDepth 100000
set_option maxHeartbeats 0
open PySem PySem.W PySem.Calls PyProof.Rows
theorem PySem.Challenge.cw_sparedlines_k01_builds_by_rows_of_operat_holds : PySem.Challenge.rw_sparedlines_k01_builds_by_rows_of_operat.Holds := by
  w_on; o_law
  refine HandSHeadRun.head_any (r := OpenLaw.row PySem.Challenge.rw_sparedlines_k01_builds_by_rows_of_operat) (q := view (OpenLaw.row PySem.Challenge.rw_sparedlines_k01_builds_by_rows_of_operat).prog [29]) (H := K01.hk) (ob := K01.ob) (M := 4000) (loose := K01.loose) (d := HandSHeadRun.topDef (OpenLaw.row PySem.Challenge.rw_sparedlines_k01_builds_by_rows_of_operat).prog 29) (kwd := [])
    K01.ob_eq (by kernel_rfl) (fun s => by kernel_rfl) K01.run (by kernel_rfl) (by kernel_rfl) (by kernel_rfl) (by rfl) (by first | assumption | decide +kernel) (by decide +kernel) ⟨rfl, rfl, rfl, rfl, rfl, by decide +kernel⟩ ?hw ?hc
  case hw => w_witness2
  case hc =>
    refine IR.walk_end (l := PySem.Challenge.rw_sparedlines_k01_builds_by_rows_of_operat) (n := 63) (k := 60) (x := "_law_script") rfl (by decide) (by kernel_rfl) ⟨rfl, by decide, by decide⟩ ?F
    intro w mg fa h Y G hmg0
    obtain ⟨K, KX, c⟩ := Y
    have T := K01.top_ok KX G c
    have hmg : mg ("law" : PySem.Str) = some (.ref fa) := by
      have e : (HandSHeadRun.topDef (OpenLaw.row PySem.Challenge.rw_sparedlines_k01_builds_by_rows_of_operat).prog 29).name = ("law" : PySem.Str) := by kernel_rfl
      rw [← e]
      exact hmg0
    have e := hmg.symm.trans T.g_law
    cases e
    have b := L2.FunD.bindsA (ps := ["_law_script"]) T.d36 fun _ _ _ _ _ _ us hl => match us, hl with | [_], _ => rfl
    exact ⟨K01.wd K, _, _, KX, fun s v => b s [v] rfl, fun is hl => K01.law_true is hl, fun base _ _ => K01.all_ok T 60 36⟩
end
