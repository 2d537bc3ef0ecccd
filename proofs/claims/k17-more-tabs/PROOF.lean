import PyProof.Rows.All
import Wide.All
import OpenK.AllK
import Wide.FinOn
import HandS.ForMost
import HandS.Walk
import HandS.Exc
import HandS.TryOnly
import HandS.ExcOwn
import HandS.WordsExc
import HandS.IsInst
import HandS.ExcCtx
import HandS.HotCalls
import HandS.ExcIs
import HandS.TupMul
import HandS.SetFor
import HandS.StrMore
import HandS.SortInts
import HandS.Style
import HandS.Deep
import HandS.TupLe
import HandS.Zip
import HandS.TupAny
import PySem.PyData
import PySem.Value
import KE.KeyNested
import KE.KxIndex
import HandS.Replace
import KE.DataFind
import HandS.Strs
import KE.SortData
import KE.DataCmp
import KE.GoesMore
import PyProof.Draws
import PyProof.EnumMake
import KE.GoesZip
import HandS.TupSets
import HandS.ListItems
import HandS.Conv
import HandS.WordsDict
import KE.KDictDisplayH
import PyProof.Rows.TupTab
import KE.RegKIsAll
import PySem.Challenge.RW_inkcarriage_k17_whole_more_tabs
set_option Elab.async false
set_option linter.all false
set_option maxRecDepth 100000
section
set_option maxHeartbeats 0
namespace DL
open PySem

inductive D where
  | non
  | bl (b : Bool)
  | int (i : Int)
  | str (s : Str)
  | tup (xs : List D)
  | lst (xs : List D)
  | ref (a : Addr)
  | scr (ns : List Int)
  | ty (n : String)

abbrev DKey := Sum Int Str
inductive MO where
  | lst (ds : List D)
  | ins (C : Addr) (fs : List (Str × D))
  | dct (kvs : List (DKey × D))
    | dnt (a : Addr) (kvs : List (D × D))

abbrev Store := Addr → Option MO
def sup (m : Store) (a : Addr) (o : MO) : Store := fun b => if b = a then some o else m b
def sdel (m : Store) (a : Addr) : Store := fun b => if b = a then none else m b
theorem sup_same {m : Store} {a : Addr} {o : MO} : sup m a o a = some o := by unfold sup; rw [if_pos rfl]
theorem sup_ne {m : Store} {a b : Addr} {o : MO} (h : b ≠ a) : sup m a o b = m b := by unfold sup; rw [if_neg h]
theorem sup_sup {m : Store} {a : Addr} {o u : MO} : sup (sup m a o) a u = sup m a u := by
  funext b; unfold sup; split <;> rfl
theorem sup_swap {m : Store} {a b : Addr} {o u z : MO} (h : a ≠ b) : sup (sup (sup m a o) b u) a z = sup (sup m a z) b u := by
  funext c; unfold sup
  by_cases h1 : c = a
  · subst h1; rw [if_pos rfl, if_neg h, if_pos rfl]
  · rw [if_neg h1]
    by_cases h2 : c = b
    · rw [if_pos h2, if_pos h2]
    · rw [if_neg h2, if_neg h2, if_neg h1, if_neg h1]
theorem sup_comm {m : Store} {a b : Addr} {o u : MO} (h : a ≠ b) : sup (sup m a o) b u = sup (sup m b u) a o := by
  funext c; unfold sup
  by_cases h1 : c = a
  · subst h1; rw [if_neg h, if_pos rfl, if_pos rfl]
  · by_cases h2 : c = b
    · subst h2; rw [if_pos rfl, if_neg h1, if_pos rfl]
    · rw [if_neg h2, if_neg h1, if_neg h1, if_neg h2]
theorem sdel_sup {m : Store} {a : Addr} {o : MO} (h : m a = none) : sdel (sup m a o) a = m := by
  funext c; unfold sdel sup
  by_cases h1 : c = a
  · subst h1; rw [if_pos rfl, h]
  · rw [if_neg h1, if_neg h1]
theorem ne_sto {m : Store} {a b : Addr} {o : MO} (h : m a = some o) (h' : m b = none) : a ≠ b := by
  intro e; subst e; rw [h] at h'; cases h'

def Sub (m m' : Store) : Prop := ∀ a o, m a = some o → m' a = some o
theorem Sub.refl (m : Store) : Sub m m := fun _ _ h => h
theorem Sub.trans {a b c : Store} (h : Sub a b) (h' : Sub b c) : Sub a c := fun x o e => h' x o (h x o e)
theorem Sub.new {m : Store} {a : Addr} {o : MO} (h : m a = none) : Sub m (sup m a o) := fun b u e => by
  rw [sup_ne (ne_sto e h)]; exact e

abbrev Env := List (Option D)
def get : Env → Nat → Option D
  | [], _ => none
  | x :: _, 0 => x
  | _ :: r, i + 1 => get r i
def put : Env → Nat → Option D → Env
  | [], _, _ => []
  | _ :: r, 0, d => d :: r
  | x :: r, i + 1, d => x :: put r i d
def wipeD (e : Env) : List Nat → Env
  | [] => e
  | v :: vs => put (wipeD e vs) v none
theorem put_eq_set : ∀ (e : Env) (i : Nat) (d : Option D), put e i d = e.set i d
  | [], _, _ => rfl
  | _ :: _, 0, _ => rfl
  | x :: r, i + 1, d => by show x :: put r i d = x :: r.set i d; rw [put_eq_set r i d]
theorem get_eq : ∀ (e : Env) (i : Nat), get e i = (e[i]?).bind id
  | [], _ => by simp [get]
  | x :: _, 0 => by simp [get]
  | x :: r, i + 1 => by simp [get, get_eq r i]

abbrev KD := D → Store → Prop
abbrev XD := Addr → Store → Prop
abbrev WE := Env → Store → KD → XD → Prop
abbrev WA := Env → Store → (List D → Store → Prop) → XD → Prop
abbrev WT := Env → Store → (Bool → Store → Prop) → XD → Prop
structure SK where
  nx : Env → Store → Prop
  rt : KD
  ex : XD
  bk : Env → Store → Prop
  ct : Env → Store → Prop
abbrev WS := Env → Store → SK → Prop
abbrev FW := List D → Store → KD → XD → Prop
abbrev W2 := D → D → Store → KD → Prop
abbrev W1 := D → Store → KD → Prop
abbrev WL := List D → Store → KD → Prop

def LIM : Nat := 16777216
def ok {α : Type} (o : Option α) (k : α → Prop) : Prop := match o with | some a => k a | none => False
@[simp] theorem ok_some {α : Type} {a : α} {k : α → Prop} : ok (some a) k = k a := rfl
@[simp] theorem ok_none {α : Type} {k : α → Prop} : ok none k = False := rfl
theorem ok_iff {α : Type} {o : Option α} {k : α → Prop} : ok o k ↔ ∃ a, o = some a ∧ k a := by
  cases o with
  | none => exact ⟨fun h => h.elim, fun ⟨_, h, _⟩ => nomatch h⟩
  | some a => exact ⟨fun h => ⟨a, rfl, h⟩, fun ⟨b, e, h⟩ => by cases e; exact h⟩

def wVar (i : Nat) : WE := fun r m R _ => ok (get r i) fun d => R d m
def wC (d : D) : WE := fun _ m R _ => R d m
def wOp (w : W2) (a b : WE) : WE := fun r m R x => a r m (fun u m1 => b r m1 (fun v m2 => w u v m2 R) x) x
def wUn (w : W1) (a : WE) : WE := fun r m R x => a r m (fun u m1 => w u m1 R) x
def wNil : WA := fun _ m R _ => R [] m
def wCons (a : WE) (b : WA) : WA := fun r m R x => a r m (fun u m1 => b r m1 (fun us m2 => R (u :: us) m2) x) x
def wTup (a : WA) : WE := fun r m R x => a r m (fun us m1 => us.length ≤ LIM ∧ R (.tup us) m1) x
def wNw : Bool → List D → Store → KD → Prop
  | true, ds, m, R => ∀ a, m a = none → R (.ref a) (sup m a (.lst ds))
  | false, ds, m, R => R (.lst ds) m
def wLst (b : Bool) (a : WA) : WE := fun r m R x => a r m (fun us m1 => us.length ≤ LIM ∧ wNw b us m1 R) x
def wFrz (a : WE) : WE := fun r m R x => a r m (fun u m1 => ∃ b ds, u = .ref b ∧ m1 b = some (.lst ds) ∧ R (.lst ds) (sdel m1 b)) x
def wCallB (w : WL) (a : WA) : WE := fun r m R x => a r m (fun us m1 => w us m1 R) x
def wCall (n : Nat) (f : FW) (a : WA) : WE := fun r m R x => a r m (fun us m1 => us.length = n ∧ f us m1 R x) x
def wIf (t : WT) (a b : WE) : WE := fun r m R x => t r m (fun c m1 => if c = true then a r m1 R x else b r m1 R x) x
def wTest (a : WE) : WT := fun r m R x => a r m (fun u m1 => match u with | .bl b => R b m1 | _ => False) x
def wAnd (a b : WT) : WT := fun r m R x => a r m (fun c m1 => if c = true then b r m1 R x else R false m1) x
def wOr (a b : WT) : WT := fun r m R x => a r m (fun c m1 => if c = true then R true m1 else b r m1 R x) x
def wNot (a : WT) : WT := fun r m R x => a r m (fun c m1 => R (!c) m1) x
def wOf (a : WT) : WE := fun r m R x => a r m (fun c m1 => R (.bl c) m1) x
def wChain (w w' : W2) (a b c : WE) : WE := fun r m R x => a r m (fun u m1 => b r m1 (fun v m2 => w u v m2 fun z m3 => match z with
  | .bl true => c r m3 (fun y m4 => w' v y m4 R) x
  | .bl false => R (.bl false) m3
  | _ => False) x) x

def wNext : WS := fun r m k => k.nx r m
def wSeq (s t : WS) : WS := fun r m k => s r m { k with nx := fun r' m' => t r' m' k }
def wIfS (t : WT) (a b : WS) : WS := fun r m k => t r m (fun c m1 => if c = true then a r m1 k else b r m1 k) k.ex
def wRet (a : WE) : WS := fun r m k => a r m k.rt k.ex
def wRetN : WS := fun r m k => k.rt .non m
def wExp (a : WE) : WS := fun r m k => a r m (fun _ m1 => k.nx r m1) k.ex
def wSet (i : Nat) (a : WE) : WS := fun r m k => a r m (fun u m1 => k.nx (put r i (some u)) m1) k.ex
abbrev WG := D → Env → Store → (Env → Store → Prop) → Prop
def gNm (i : Nat) : WG := fun u r m K => K (put r i (some u)) m
def putAll : Env → List Nat → List D → Env
  | r, i :: is, d :: ds => putAll (put r i (some d)) is ds
  | r, _, _ => r
def gTp (is : List Nat) : WG := fun u r m K => match u with | .tup ds => ds.length = is.length ∧ K (putAll r is ds) m | _ => False
def gLs (is : List Nat) : WG := fun u r m K => match u with | .lst ds => ds.length = is.length ∧ K (putAll r is ds) m | _ => False
def wAsg (a : WE) (g : WG) : WS := fun r m k => a r m (fun u m1 => g u r m1 k.nx) k.ex
def wNever : WS := fun _ _ _ => False
def wRaise (C : Addr) : WS := fun _ m k => k.ex C m

def wForL (G : Store → Prop) (g : WG) (b : WS) : List D → WS
  | [] => fun r m k => G m ∧ k.nx r m
  | d :: ds => fun r m k => G m ∧ g d r m fun r' m' => b r' m' { k with nx := fun r2 m2 => wForL G g b ds r2 m2 k, ct := fun r2 m2 => wForL G g b ds r2 m2 k, bk := k.nx }
abbrev WI := Env → Store → (List D → (Store → Prop) → Store → Prop) → XD → Prop
def wFor (it : WI) (g : WG) (b : WS) : WS := fun r m k => it r m (fun ds G m1 => wForL G g b ds r m1 k) k.ex
def wLcL (G : Store → Prop) (vs : List Nat) (g : WG) (t : WT) (e : WE) (r : Env) : List D → List D → Store → (List D → Store → Prop) → Prop
  | [], acc, m, K => G m ∧ K acc m
  | d :: ds, acc, m, K => G m ∧ g d (wipeD r vs) m fun r' m' => t r' m' (fun c m1 => if c = true then e r' m1 (fun u m2 => acc.length < LIM ∧ wLcL G vs g t e r ds (acc ++ [u]) m2 K) (fun _ _ => False) else wLcL G vs g t e r ds acc m1 K) (fun _ _ => False)
def wYes : WT := fun _ m R _ => R true m
def wLc (b : Bool) (vs : List Nat) (it : WI) (g : WG) (t : WT) (e : WE) : WE := fun r m R x => it r m (fun ds G m1 => wLcL G vs g t e r ds [] m1 fun us m2 => wNw b us m2 R) x

def wWhN (t : WT) (b : WS) : Nat → WS
  | 0 => fun _ _ _ => False
  | n + 1 => fun r m k => t r m (fun c m1 => if c = true then b r m1 { k with nx := fun r2 m2 => wWhN t b n r2 m2 k, ct := fun r2 m2 => wWhN t b n r2 m2 k, bk := k.nx } else k.nx r m1) k.ex
def wWhile (t : WT) (b : WS) : WS := fun r m k => ∃ n, wWhN t b n r m k

def asL (m : Store) : D → Option (List D)
  | .lst xs => some xs
  | .ref a => match m a with | some (.lst xs) => some xs | _ => none
  | _ => none
def asQ (m : Store) : D → Option (List D)
  | .tup xs => some xs
  | .scr ns => some (ns.map .int)
  | d => asL m d
def asI (m : Store) (d : D) (K : List D → (Store → Prop) → Prop) : Prop := match d with
  | .tup xs => K xs fun _ => True
  | .lst xs => K xs fun _ => True
  | .ref a => match m a with
    | some (.lst xs) => K xs fun m' => m' a = some (.lst xs)
    | _ => False
  | .str s => K (s.cps.toList.map fun c => .str ⟨#[c]⟩) fun _ => True
  | _ => False
def iSeq (a : WE) : WI := fun r m K x => a r m (fun u m1 => asI m1 u fun ds G => K ds G m1) x
def rangeD (i j : Int) : List D := (List.range (j - i).toNat).map fun k => .int (i + (k : Nat))
def iRange1 (a : WE) : WI := fun r m K x => a r m (fun u m1 => match u with
  | .int j => -(2 ^ 62) ≤ j ∧ j < 2 ^ 62 ∧ K (rangeD 0 j) (fun _ => True) m1
  | _ => False) x
def iRange2 (a b : WE) : WI := fun r m K x => a r m (fun u m1 => b r m1 (fun v m2 => match u, v with
  | .int i, .int j => (-(2 ^ 62) ≤ i ∧ i < 2 ^ 62 ∧ -(2 ^ 62) ≤ j ∧ j < 2 ^ 62) ∧ K (rangeD i j) (fun _ => True) m2
  | _, _ => False) x) x
def enumD : Nat → List D → List D
  | _, [] => []
  | n, d :: ds => .tup [.int (n : Nat), d] :: enumD (n + 1) ds
def zipD : List D → List D → List D
  | x :: xs, y :: ys => .tup [x, y] :: zipD xs ys
  | _, _ => []
def iEnum (a : WE) : WI := fun r m K x => a r m (fun u m1 => match u with
  | .lst xs => K (enumD 0 xs) (fun _ => True) m1
  | .ref a => match m1 a with
    | some (.lst xs) => K (enumD 0 xs) (fun m' => m' a = some (.lst xs)) m1
    | _ => False
  | .tup xs => K (enumD 0 xs) (fun _ => True) m1
  | .str s => K (enumD 0 (s.cps.toList.map fun c => .str ⟨#[c]⟩)) (fun _ => True) m1
  | _ => False) x
def iZip (a b : WE) : WI := fun r m K x => a r m (fun u m1 => b r m1 (fun v m2 => match u, v with
  | .tup xs, .tup ys => K (zipD xs ys) (fun _ => True) m2
  | .lst xs, .lst ys => K (zipD xs ys) (fun _ => True) m2
  | .lst xs, .tup ys => K (zipD xs ys) (fun _ => True) m2
  | .str s, .str t => K (zipD (s.cps.toList.map fun c => .str ⟨#[c]⟩) (t.cps.toList.map fun c => .str ⟨#[c]⟩)) (fun _ => True) m2
  | _, _ => False) x) x
end DL
end
section
set_option maxHeartbeats 0
namespace DL
open PySem
def okS (s : Str) : Bool := s.cps.all (· < 0x110000)
mutual
def eqD : D → D → Bool
  | .non, .non => true
  | .bl a, .bl b => decide (a = b)
  | .bl a, .int j => decide ((if a then (1 : Int) else 0) = j)
  | .int i, .bl b => decide (i = (if b then (1 : Int) else 0))
  | .int i, .int j => decide (i = j)
  | .str x, .str y => decide (x = y)
  | .lst xs, .lst ys => eqDs xs ys
  | .tup xs, .tup ys => eqDs xs ys
  | _, _ => false
def eqDs : List D → List D → Bool
  | [], [] => true
  | x :: xs, y :: ys => eqD x y && eqDs xs ys
  | _, _ => false
end
mutual
def dOk : D → Nat → Bool
  | .non, _ => true
  | .bl _, _ => true
  | .int _, _ => true
  | .str s, _ => okS s
  | .tup xs, n + 1 => dOks xs n
  | .lst xs, n + 1 => dOks xs n
  | _, _ => false
def dOks : List D → Nat → Bool
  | [], _ => true
  | x :: xs, n => dOk x n && dOks xs n
end
mutual
theorem eqD_refl : ∀ (d : D) (n : Nat), dOk d n = true → eqD d d = true
  | .non, _, _ => rfl
  | .bl b, _, _ => by simp [eqD]
  | .int i, _, _ => by simp [eqD]
  | .str s, _, _ => by simp [eqD]
  | .tup xs, n + 1, h => by rw [eqD]; exact eqDs_refl xs n (by simpa [dOk] using h)
  | .lst xs, n + 1, h => by rw [eqD]; exact eqDs_refl xs n (by simpa [dOk] using h)
  | .tup xs, 0, h => by simp [dOk] at h
  | .lst xs, 0, h => by simp [dOk] at h
  | .ref a, n, h => by simp [dOk] at h
  | .scr a, n, h => by simp [dOk] at h
  | .ty a, n, h => by simp [dOk] at h
theorem eqDs_refl : ∀ (xs : List D) (n : Nat), dOks xs n = true → eqDs xs xs = true
  | [], _, _ => rfl
  | x :: xs, n, h => by
    have h' : dOk x n = true ∧ dOks xs n = true := by simpa [dOks] using h
    rw [eqDs, eqD_refl x n h'.1, eqDs_refl xs n h'.2]; rfl
end
def rv (m : Store) (d : D) : D := match d with
  | .ref a => match m a with | some (.lst xs) => .lst xs | _ => .ref a
  | d => d
def wEq : W2 := fun d e m R => match d, e with
  | .str s, .str t => R (.bl (decide (s = t))) m
  | .int i, .int j => R (.bl (decide (i = j))) m
  | _, _ => dOk (rv m d) 60 = true ∧ dOk (rv m e) 60 = true ∧ R (.bl (eqD (rv m d) (rv m e))) m
def wNe : W2 := fun d e m R => wEq d e m fun u m' => match u with | .bl b => R (.bl (!b)) m' | _ => False
def wCmpI (p : Int → Int → Bool) : W2 := fun d e m R => match d, e with
  | .int i, .int j => R (.bl (p i j)) m
  | _, _ => False
def wLe : W2 := fun d e m R => match d, e with
  | .int i, .int j => R (.bl (decide (i ≤ j))) m
  | .str s, .str t => R (.bl (!decide (t.cps.toList < s.cps.toList))) m
  | _, _ => False
def wGt : W2 := fun d e m R => match d, e with
  | .int i, .int j => R (.bl (decide (j < i))) m
  | .str s, .str t => R (.bl (decide (t.cps.toList < s.cps.toList))) m
  | _, _ => False
def wGe : W2 := fun d e m R => match d, e with
  | .int i, .int j => R (.bl (decide (j ≤ i))) m
  | .str s, .str t => R (.bl (!decide (s.cps.toList < t.cps.toList))) m
  | _, _ => False
def wEqS : W2 := fun d e m R => match d, e with
  | .scr ns, .lst [] => R (.bl ns.isEmpty) m
  | _, _ => False
def wLt : W2 := fun d e m R => match d, e with
  | .int i, .int j => R (.bl (decide (i < j))) m
  | .str s, .str t => R (.bl (decide (s.cps.toList < t.cps.toList))) m
  | _, _ => False
def flatD : D → Bool
  | .non => true
  | .bl _ => true
  | .int _ => true
  | .str _ => true
  | _ => false
def inD (x : D) (xs : List D) : Bool := xs.any fun y => eqD y x
def wInB (x e : D) (m : Store) (K : Bool → Prop) : Prop := match e with
  | .str t => ∃ c, x = .str ⟨#[c]⟩ ∧ K (decide (c ∈ t.cps.toList))
  | .tup xs => flatD x = true ∧ xs.all flatD = true ∧ K (inD x xs)
  | e => ∃ xs, asL m e = some xs ∧ ((flatD x = true ∧ xs.all flatD = true) ∨ (dOk x 60 = true ∧ dOks xs 59 = true)) ∧ K (inD x xs)
def wIn : W2 := fun x e m R => wInB x e m fun b => R (.bl b) m
def wNotIn : W2 := fun x e m R => wInB x e m fun b => R (.bl (!b)) m
def wIsN : W2 := fun x e m R => e = .non ∧ match x with | .non => R (.bl true) m | .ty _ => False | _ => R (.bl false) m
def wNotN : W2 := fun x e m R => e = .non ∧ match x with | .non => R (.bl false) m | .ty _ => False | _ => R (.bl true) m
def wAdd (b : Bool) : W2 := fun d e m R => match d, e with
  | .int i, .int j => R (.int (i + j)) m
  | .str s, .str t => s.length + t.length ≤ LIM ∧ R (.str (s ++ t)) m
  | .tup xs, .tup ys => xs.length + ys.length ≤ LIM ∧ R (.tup (xs ++ ys)) m
  | _, _ => ∃ xs ys, asL m d = some xs ∧ asL m e = some ys ∧ xs.length + ys.length ≤ LIM ∧ wNw b (xs ++ ys) m R
def wSub : W2 := fun d e m R => match d, e with
  | .int i, .int j => R (.int (i - j)) m
  | _, _ => False
def repD (k : Nat) (xs : List D) : List D := (List.replicate k xs).flatten
def wMul (b : Bool) : W2 := fun d e m R => match d, e with
  | .int i, .int j => ((-(2 ^ 64) < i ∧ i < 2 ^ 64) ∨ (-(2 ^ 64) < j ∧ j < 2 ^ 64)) ∧ R (.int (i * j)) m
  | .str s, .int k => (s.length ≤ 16 ∧ -(2 ^ 63) ≤ k ∧ k ≤ 1048576) ∧ R (.str ⟨(List.replicate k.toNat s.cps.toList).flatten.toArray⟩) m
  | d, .int k => ∃ xs, asL m d = some xs ∧ -(2 ^ 63) ≤ k ∧ k < 2 ^ 63 ∧ xs.length * k.toNat ≤ LIM ∧ wNw b (repD k.toNat xs) m R
  | _, _ => False
def wMulT : W2 := fun d e m R => match d, e with
  | .tup xs, .int k => 0 ≤ k ∧ k ≤ 100000 ∧ xs.length ≤ 100 ∧ R (.tup (repD k.toNat xs)) m
  | _, _ => False
def wMod : W2 := fun d e m R => match d, e with
  | .int i, .int j => 0 < j ∧ R (.int (i % j)) m
  | _, _ => False
def wDiv : W2 := fun d e m R => match d, e with
  | .int i, .int j => (0 < j ∧ j < 1073741824) ∧ R (.int (i / j)) m
  | _, _ => False
def wPow : W2 := fun d e m R => match d, e with
  | .int i, .int j => (0 ≤ j ∧ j ≤ 1000000 ∧ i.natAbs < 2 ^ 64) ∧ R (.int (i ^ j.toNat)) m
  | _, _ => False
def wNeg : W1 := fun d m R => match d with
  | .int i => R (.int (-i)) m
  | _ => False
def ixL (n : Nat) (i : Int) : Option Nat := if 0 ≤ i then (if i < n then some i.toNat else none) else if -(n : Int) ≤ i then some (i + n).toNat else none
def atL {α : Type} (xs : List α) (i : Int) : Option α := (ixL xs.length i).bind fun j => xs[j]?
def wIx : W2 := fun d e m R => match d, e with
  | .str s, .int i => s.length ≤ LIM ∧ ok (atL s.cps.toList i) fun c => R (.str ⟨#[c]⟩) m
  | d, .int i => ok (asQ m d) fun xs => ok (atL xs i) fun v => R v m
  | _, _ => False
def sIxD (n d : Nat) : Option Int → Nat
  | none => d
  | some i => if i < 0 then (i + n).toNat else min i.toNat n
def cutL {α : Type} (xs : List α) (lo hi : Option Int) : List α := (xs.drop (sIxD xs.length 0 lo)).take (sIxD xs.length xs.length hi - sIxD xs.length 0 lo)
def wCut (b : Bool) : D → Option Int → Option Int → Store → KD → Prop := fun d lo hi m R => match d with
  | .tup xs => R (.tup (cutL xs lo hi)) m
  | .str s => s.length ≤ LIM ∧ R (.str ⟨(cutL s.cps.toList lo hi).toArray⟩) m
  | d => ok (asL m d) fun xs => wNw b (cutL xs lo hi) m R
end DL
end
section
set_option maxHeartbeats 0
namespace DL
open PySem
mutual
def numOk : D → Nat → Bool
  | .bl _, _ => true
  | .int _, _ => true
  | .tup xs, n + 1 => numOks xs n
  | _, _ => false
def numOks : List D → Nat → Bool
  | [], _ => true
  | x :: xs, n => numOk x n && numOks xs n
end
mutual
def toNum : D → NestedKey
  | .bl b => .num (if b = true then 1 else 0)
  | .int i => .num i
  | .tup xs => .tup (toNums xs)
  | _ => .none
def toNums : List D → List NestedKey
  | [] => []
  | x :: xs => toNum x :: toNums xs
end
mutual
theorem num_hash (w w' : World) : ∀ (d : D) (n : Nat), numOk d n = true → (toNum d).hash w = (toNum d).hash w'
  | .bl b, _, _ => by simp only [toNum, NestedKey.hash]
  | .int i, _, _ => by simp only [toNum, NestedKey.hash]
  | .tup xs, n + 1, h => by
    have := nums_hash w w' xs n (by simpa [numOk] using h)
    simp only [toNum, NestedKey.hash, this]
  | .tup xs, 0, h => by simp [numOk] at h
  | .non, _, h => by simp [numOk] at h
  | .str _, _, h => by simp [numOk] at h
  | .lst _, _, h => by simp [numOk] at h
  | .ref _, _, h => by simp [numOk] at h
  | .scr _, _, h => by simp [numOk] at h
  | .ty _, _, h => by simp [numOk] at h
theorem nums_hash (w w' : World) : ∀ (xs : List D) (n : Nat), numOks xs n = true → NestedKey.hashes w (toNums xs) = NestedKey.hashes w' (toNums xs)
  | [], _, _ => rfl
  | x :: xs, n, h => by
    have h' : numOk x n = true ∧ numOks xs n = true := by simpa [numOks] using h
    simp only [toNums, NestedKey.hashes, num_hash w w' x n h'.1, nums_hash w w' xs n h'.2]
end
mutual
theorem num_depth : ∀ (d : D) (n : Nat), numOk d n = true → (toNum d).depth ≤ n
  | .bl b, n, _ => by simp [toNum, NestedKey.depth]
  | .int i, n, _ => by simp [toNum, NestedKey.depth]
  | .tup xs, n + 1, h => by
    have := nums_depth xs n (by simpa [numOk] using h)
    simp only [toNum, NestedKey.depth]; omega
  | .tup xs, 0, h => by simp [numOk] at h
  | .non, _, h => by simp [numOk] at h
  | .str _, _, h => by simp [numOk] at h
  | .lst _, _, h => by simp [numOk] at h
  | .ref _, _, h => by simp [numOk] at h
  | .scr _, _, h => by simp [numOk] at h
  | .ty _, _, h => by simp [numOk] at h
theorem nums_depth : ∀ (xs : List D) (n : Nat), numOks xs n = true → NestedKey.depthAll (toNums xs) ≤ n
  | [], _, _ => by simp [toNums, NestedKey.depthAll]
  | x :: xs, n, h => by
    have h' : numOk x n = true ∧ numOks xs n = true := by simpa [numOks] using h
    have h1 := num_depth x n h'.1
    have h2 := nums_depth xs n h'.2
    simp only [toNums, NestedKey.depthAll]; omega
end
mutual
theorem num_eq : ∀ (d e : D) (n k : Nat), numOk d n = true → numOk e k = true → decide (toNum d = toNum e) = eqD d e
  | .bl a, .bl b, _, _, _, _ => by cases a <;> cases b <;> simp [toNum, eqD]
  | .bl a, .int j, _, _, _, _ => by simp [toNum, eqD]
  | .int i, .bl b, _, _, _, _ => by simp [toNum, eqD]
  | .int i, .int j, _, _, _, _ => by simp [toNum, eqD]
  | .tup xs, .tup ys, n + 1, k + 1, h1, h2 => by
    have := nums_eq xs ys n k (by simpa [numOk] using h1) (by simpa [numOk] using h2)
    rw [eqD, ← this]
    simp [toNum]
  | .bl a, .tup ys, _, _, _, _ => by simp [toNum, eqD]
  | .int a, .tup ys, _, _, _, _ => by simp [toNum, eqD]
  | .tup a, .bl ys, _, _, _, _ => by simp [toNum, eqD]
  | .tup a, .int ys, _, _, _, _ => by simp [toNum, eqD]
  | .tup xs, .tup _, 0, _, h, _ => by simp [numOk] at h
  | .tup xs, .tup _, _ + 1, 0, _, h => by simp [numOk] at h
  | .non, _, _, _, h, _ => by simp [numOk] at h
  | .str _, _, _, _, h, _ => by simp [numOk] at h
  | .lst _, _, _, _, h, _ => by simp [numOk] at h
  | .ref _, _, _, _, h, _ => by simp [numOk] at h
  | .scr _, _, _, _, h, _ => by simp [numOk] at h
  | .ty _, _, _, _, h, _ => by simp [numOk] at h
  | .bl _, .non, _, _, _, h => by simp [numOk] at h
  | .bl _, .str _, _, _, _, h => by simp [numOk] at h
  | .bl _, .lst _, _, _, _, h => by simp [numOk] at h
  | .bl _, .ref _, _, _, _, h => by simp [numOk] at h
  | .bl _, .scr _, _, _, _, h => by simp [numOk] at h
  | .bl _, .ty _, _, _, _, h => by simp [numOk] at h
  | .int _, .non, _, _, _, h => by simp [numOk] at h
  | .int _, .str _, _, _, _, h => by simp [numOk] at h
  | .int _, .lst _, _, _, _, h => by simp [numOk] at h
  | .int _, .ref _, _, _, _, h => by simp [numOk] at h
  | .int _, .scr _, _, _, _, h => by simp [numOk] at h
  | .int _, .ty _, _, _, _, h => by simp [numOk] at h
  | .tup _, .non, _, _, _, h => by simp [numOk] at h
  | .tup _, .str _, _, _, _, h => by simp [numOk] at h
  | .tup _, .lst _, _, _, _, h => by simp [numOk] at h
  | .tup _, .ref _, _, _, _, h => by simp [numOk] at h
  | .tup _, .scr _, _, _, _, h => by simp [numOk] at h
  | .tup _, .ty _, _, _, _, h => by simp [numOk] at h
theorem nums_eq : ∀ (xs ys : List D) (n k : Nat), numOks xs n = true → numOks ys k = true → decide (toNums xs = toNums ys) = eqDs xs ys
  | [], [], _, _, _, _ => by simp [toNums, eqDs]
  | [], y :: ys, _, _, _, _ => by simp [toNums, eqDs]
  | x :: xs, [], _, _, _, _ => by simp [toNums, eqDs]
  | x :: xs, y :: ys, n, k, h1, h2 => by
    have a : numOk x n = true ∧ numOks xs n = true := by simpa [numOks] using h1
    have b : numOk y k = true ∧ numOks ys k = true := by simpa [numOks] using h2
    rw [eqDs, ← num_eq x y n k a.1 b.1, ← nums_eq xs ys n k a.2 b.2]
    simp [toNums]
end
def ndPhi (a : Addr) (xs : List (NestedKey × Addr × Value)) : Heap → Prop := fun h => (a == sysModules) = false ∧ (xs.map (·.1)).Nodup ∧ ∃ o es ep w, h.get? a = some o ∧ o.ExactDict ∧ o.data = .dict es ep ∧ es.toList = xs.map fun x => (⟨x.1.hash w, .ref x.2.1, x.2.2⟩ : DictEntry)
end DL
end
section
set_option maxHeartbeats 0
namespace DL
open PySem PySem.Spec PyProof.Rows L2

theorem LIM_eq : LIM = sizeLine := by rw [sizeLine_eq]; rfl

mutual
inductive Dp (K : PySem.W.Frag) (B : Hp) : V → D → Prop
  | non : Dp K B .non .non
  | bl (b : Bool) : Dp K B (.bl b) (.bl b)
  | int (i : Int) : Dp K B (.int i) (.int i)
  | str (s : Str) : Dp K B (.str s) (.str s)
  | ty (n : String) : Dp K B (.ty n) (.ty n)
  | ref (a : Addr) : Dp K B (.ref a) (.ref a)
  | tup {a : Addr} {xs : List V} {ds : List D} : SqT K B a xs → DpAll K B xs ds → Dp K B (.ref a) (.tup ds)
  | lst {a : Addr} {xs : List V} {ds : List D} : B a = some (.lst xs) → DpAll K B xs ds → Dp K B (.ref a) (.lst ds)
  | scr {a : Addr} {ns : List Int} : SqL K B a (ns.map V.int) → Dp K B (.ref a) (.scr ns)
inductive DpAll (K : PySem.W.Frag) (B : Hp) : List V → List D → Prop
  | nil : DpAll K B [] []
  | cons {v : V} {vs : List V} {d : D} {ds : List D} : Dp K B v d → DpAll K B vs ds → DpAll K B (v :: vs) (d :: ds)
end

theorem sqT_mono {K : PySem.W.Frag} {B B' : Hp} {a : Addr} {xs : List V} (e : Same B B') (h : SqT K B a xs) : SqT K B' a xs := by
  rcases h with (h | ⟨o, h⟩) | h
  · exact .inl (.inl (e _ _ h))
  · exact .inl (.inr ⟨o, e _ _ h⟩)
  · exact .inr h
section
variable {K : PySem.W.Frag} {B B' : Hp} (e : Same B B')
include e
mutual
theorem Dp.mono : ∀ {v : V} {d : D}, Dp K B v d → Dp K B' v d
  | _, _, .non => .non
  | _, _, .bl b => .bl b
  | _, _, .int i => .int i
  | _, _, .str s => .str s
  | _, _, .ty n => .ty n
  | _, _, .ref a => .ref a
  | _, _, .tup h hs => .tup (sqT_mono e h) (DpAll.mono hs)
  | _, _, .lst h hs => .lst (e _ _ h) (DpAll.mono hs)
  | _, _, .scr h => .scr (e.seq h)
theorem DpAll.mono : ∀ {vs : List V} {ds : List D}, DpAll K B vs ds → DpAll K B' vs ds
  | _, _, .nil => .nil
  | _, _, .cons h hs => .cons (Dp.mono h) (DpAll.mono hs)
end
end
theorem DpAll.length {K : PySem.W.Frag} {B : Hp} : ∀ {vs : List V} {ds : List D}, DpAll K B vs ds → vs.length = ds.length
  | _, _, .nil => rfl
  | _, _, .cons _ h => by simp [DpAll.length h]
theorem DpAll.get {K : PySem.W.Frag} {B : Hp} : ∀ {vs : List V} {ds : List D} {i : Nat} {d : D}, DpAll K B vs ds → ds[i]? = some d → ∃ v, vs[i]? = some v ∧ Dp K B v d
  | _, _, _, _, .nil, e => by simp at e
  | _, _, 0, _, .cons h _, e => by simp at e; subst e; exact ⟨_, rfl, h⟩
  | _, _, i + 1, _, .cons _ h, e => by
    obtain ⟨v, h1, h2⟩ := DpAll.get (i := i) h (by simpa using e)
    exact ⟨v, by simpa using h1, h2⟩
theorem DpAll.append {K : PySem.W.Frag} {B : Hp} : ∀ {vs ws : List V} {ds es : List D}, DpAll K B vs ds → DpAll K B ws es → DpAll K B (vs ++ ws) (ds ++ es)
  | _, _, _, _, .nil, h => h
  | _, _, _, _, .cons h t, h' => .cons h (DpAll.append t h')
theorem DpAll.take {K : PySem.W.Frag} {B : Hp} : ∀ {vs : List V} {ds : List D} (n : Nat), DpAll K B vs ds → DpAll K B (vs.take n) (ds.take n)
  | _, _, 0, _ => .nil
  | _, _, _ + 1, .nil => .nil
  | _, _, n + 1, .cons h t => .cons h (DpAll.take n t)
theorem DpAll.drop {K : PySem.W.Frag} {B : Hp} : ∀ {vs : List V} {ds : List D} (n : Nat), DpAll K B vs ds → DpAll K B (vs.drop n) (ds.drop n)
  | _, _, 0, h => h
  | _, _, _ + 1, .nil => .nil
  | _, _, n + 1, .cons _ t => DpAll.drop n t
theorem DpAll.set {K : PySem.W.Frag} {B : Hp} {v : V} {d : D} (h : Dp K B v d) : ∀ {vs : List V} {ds : List D} (n : Nat), DpAll K B vs ds → DpAll K B (vs.set n v) (ds.set n d)
  | _, _, _, .nil => .nil
  | _, _, 0, .cons _ t => .cons h t
  | _, _, n + 1, .cons g t => .cons g (DpAll.set h n t)
theorem DpAll.reverse {K : PySem.W.Frag} {B : Hp} : ∀ {vs : List V} {ds : List D}, DpAll K B vs ds → DpAll K B vs.reverse ds.reverse
  | _, _, .nil => .nil
  | _, _, .cons h t => by
    rw [List.reverse_cons, List.reverse_cons]
    exact DpAll.append (DpAll.reverse t) (.cons h .nil)
theorem DpAll.erase {K : PySem.W.Frag} {B : Hp} : ∀ {vs : List V} {ds : List D} (n : Nat), DpAll K B vs ds → DpAll K B (vs.eraseIdx n) (ds.eraseIdx n)
  | _, _, _, .nil => by simpa using DpAll.nil
  | _, _, 0, .cons _ t => by simpa using t
  | _, _, n + 1, .cons g t => by simpa using DpAll.cons g (DpAll.erase n t)

def FRel (K : PySem.W.Frag) (B : Hp) : List (Str × V) → List (Str × D) → Prop := Paired fun (p : Str × V) (q : Str × D) => p.1 = q.1 ∧ Dp K B p.2 q.2
def KRel (K : PySem.W.Frag) (B : Hp) : List (Key × V) → List (DKey × D) → Prop := Paired fun (p : Key × V) (q : DKey × D) => p.1 = q.1 ∧ Dp K B p.2 q.2
def NdR (K : PySem.W.Frag) (B : Hp) (x : NestedKey × Addr × Value) (kd : D × D) : Prop := x.1 = toNum kd.1 ∧ numOk kd.1 8 = true ∧ (∃ z, kd.1 = .tup z) ∧ Dp K B (.ref x.2.1) kd.1 ∧ ∃ v, Dp K B v kd.2 ∧ RelV v x.2.2
theorem NdR.mono {K : PySem.W.Frag} {B B' : Hp} (e : Same B B') {x : NestedKey × Addr × Value} {kd : D × D} (h : NdR K B x kd) : NdR K B' x kd := ⟨h.1, h.2.1, h.2.2.1, h.2.2.2.1.mono e, let ⟨v, a, b⟩ := h.2.2.2.2; ⟨v, a.mono e, b⟩⟩
def MoRep (K : PySem.W.Frag) (B : Hp) : HO → MO → Prop
  | .lst vs, .lst ds => DpAll K B vs ds
  | .ins C _ gs, .ins C' fs => C = C' ∧ FRel K B gs fs
  | .dK gs, .dct kvs => KRel K B gs kvs
  | .ext φ, .dnt a kvs => ∃ xs, φ = ndPhi a xs ∧ Paired (NdR K B) xs kvs
  | _, _ => False
theorem paired_mono {α β : Type} {F G : α → β → Prop} (f : ∀ a b, F a b → G a b) : ∀ {xs : List α} {ys : List β}, Paired F xs ys → Paired G xs ys
  | _, _, .nil => .nil
  | _, _, .cons h t => .cons (f _ _ h) (paired_mono f t)
theorem MoRep.mono {K : PySem.W.Frag} {B B' : Hp} (e : Same B B') : ∀ {ho : HO} {mo : MO}, MoRep K B ho mo → MoRep K B' ho mo := by
  intro ho mo h
  cases ho with
  | lst vs => cases mo with
    | lst ds => exact DpAll.mono e h
    | _ => exact h.elim
  | ins C dx gs => cases mo with
    | ins C' fs => exact ⟨h.1, paired_mono (fun _ _ z => ⟨z.1, z.2.mono e⟩) h.2⟩
    | _ => exact h.elim
  | dK gs => cases mo with
    | dct kvs => exact paired_mono (fun _ _ z => ⟨z.1, z.2.mono e⟩) h
    | _ => exact h.elim
  | ext φ => cases mo with
    | dnt a kvs => obtain ⟨xs, e1, e2⟩ := h; exact ⟨xs, e1, paired_mono (fun _ _ z => z.mono e) e2⟩
    | _ => exact h.elim
  | _ => cases mo <;> exact h.elim
structure SRp (K : PySem.W.Frag) (B H : Hp) (m : Store) : Prop where
  same : Same B H
  obj : ∀ a mo, m a = some mo → B a = none ∧ ∃ ho, H a = some ho ∧ MoRep K B ho mo
structure Frm (B H : Hp) (m : Store) (B' H' : Hp) (m' : Store) : Prop where
  keep : ∀ a ho, H a = some ho → m a = none → H' a = some ho
  out : ∀ a ho, H a = some ho → m a = none → m' a = none
  bout : ∀ a ho, H a = some ho → m a = none → B a = none → B' a = none
theorem Frm.refl {B H : Hp} {m : Store} : Frm B H m B H m := ⟨fun _ _ h _ => h, fun _ _ _ h => h, fun _ _ _ _ h => h⟩
theorem Frm.trans {B H B1 H1 B2 H2 : Hp} {m m1 m2 : Store} (a : Frm B H m B1 H1 m1) (b : Frm B1 H1 m1 B2 H2 m2) : Frm B H m B2 H2 m2 :=
  ⟨fun p ho h n => b.keep p ho (a.keep p ho h n) (a.out p ho h n), fun p ho h n => b.out p ho (a.keep p ho h n) (a.out p ho h n), fun p ho h n z => b.bout p ho (a.keep p ho h n) (a.out p ho h n) (a.bout p ho h n z)⟩
def ERp (K : PySem.W.Frag) (B : Hp) (σ : L2.St) (r : Env) : Prop := σ.length = r.length ∧ ∀ (i : Nat) (d : D), r[i]? = some (some d) → ∃ v, σ[i]? = some (some v) ∧ Dp K B v d
theorem ERp.mono {K : PySem.W.Frag} {B B' : Hp} {σ : L2.St} {r : Env} (e : Same B B') (h : ERp K B σ r) : ERp K B' σ r :=
  ⟨h.1, fun i d q => let ⟨v, a, b⟩ := h.2 i d q; ⟨v, a, b.mono e⟩⟩
theorem ERp.set {K : PySem.W.Frag} {B : Hp} {σ : L2.St} {r : Env} {v : V} {d : D} (h : ERp K B σ r) (i : Nat) (hv : Dp K B v d) : ERp K B (σ.set i (some v)) (put r i (some d)) := by
  rw [put_eq_set]
  refine ⟨by simp [h.1], fun j e q => ?_⟩
  by_cases hj : i = j
  · subst hj
    have hl : i < r.length := by
      rcases Nat.lt_or_ge i r.length with z | z
      · exact z
      · rw [List.getElem?_eq_none (by simpa using z)] at q; cases q
    rw [List.getElem?_set_self hl] at q
    cases q
    exact ⟨v, List.getElem?_set_self (by rw [h.1]; exact hl), hv⟩
  · rw [List.getElem?_set_ne hj] at q
    rw [List.getElem?_set_ne hj]
    exact h.2 j e q
theorem ERp.wipe {K : PySem.W.Frag} {B : Hp} {σ : L2.St} {r : Env} (h : ERp K B σ r) : ∀ vs : List Nat, ERp K B (wipe σ vs) (wipeD r vs)
  | [] => h
  | v :: vs => by
    have ih := ERp.wipe h vs
    unfold L2.wipe wipeD
    rw [put_eq_set]
    refine ⟨by simp [ih.1], fun j e q => ?_⟩
    by_cases hj : v = j
    · subst hj
      rw [List.getElem?_set] at q
      simp at q
    · rw [List.getElem?_set_ne hj] at q
      rw [List.getElem?_set_ne hj]
      exact ih.2 j e q
theorem SRp.sub {K : PySem.W.Frag} {B H : Hp} {m m' : Store} (h : SRp K B H m) (s : Sub m' m) : SRp K B H m' := ⟨h.same, fun a mo e => h.obj a mo (s a mo e)⟩
theorem SRp.frz {K : PySem.W.Frag} {B H : Hp} {m : Store} {p : Addr} {ho : HO} (h : SRp K B H m) (n : H p = none) : Same B (upd B p ho) ∧ SRp K (upd B p ho) (upd H p ho) m ∧ Frm B H m (upd B p ho) (upd H p ho) m := by
  have nb : B p = none := by
    cases q : B p with
    | none => rfl
    | some o => rw [h.same _ _ q] at n; cases n
  have s1 : Same B (upd B p ho) := fun b o e => by rw [upd_ne (ne_of_none e nb)]; exact e
  refine ⟨s1, ⟨fun b o e => ?_, fun a mo e => ?_⟩, fun a o e _ => by rw [upd_ne (ne_of_none e n)]; exact e, fun _ _ _ z => z, fun a o e _ z => by rw [upd_ne (ne_of_none e n)]; exact z⟩
  · by_cases hb : b = p
    · subst hb; rw [upd_same] at e ⊢; exact e
    · rw [upd_ne hb] at e ⊢; exact h.same _ _ e
  · obtain ⟨b1, ho', e1, r1⟩ := h.obj a mo e
    have na : a ≠ p := ne_of_none e1 n
    exact ⟨by rw [upd_ne na]; exact b1, ho', by rw [upd_ne na]; exact e1, r1.mono s1⟩
theorem SRp.new {K : PySem.W.Frag} {B H : Hp} {m : Store} {p : Addr} {ho : HO} {mo : MO} (h : SRp K B H m) (n : H p = none) (r : MoRep K B ho mo) : m p = none ∧ SRp K B (upd H p ho) (sup m p mo) ∧ Frm B H m B (upd H p ho) (sup m p mo) := by
  have nb : B p = none := by
    cases q : B p with
    | none => rfl
    | some o => rw [h.same _ _ q] at n; cases n
  have nm : m p = none := by
    cases q : m p with
    | none => rfl
    | some o => obtain ⟨_, ho', e, _⟩ := h.obj _ _ q; rw [e] at n; cases n
  refine ⟨nm, ⟨fun b o e => by rw [upd_ne (ne_of_none e nb)]; exact h.same _ _ e, fun a mo' e => ?_⟩, fun a o e _ => by rw [upd_ne (ne_of_none e n)]; exact e, fun a o e z => by rw [sup_ne (ne_of_none e n)]; exact z, fun _ _ _ _ z => z⟩
  by_cases ha : a = p
  · subst ha
    rw [sup_same] at e
    cases e
    exact ⟨nb, ho, upd_same, r⟩
  · rw [sup_ne ha] at e
    obtain ⟨b1, ho', e1, r1⟩ := h.obj a mo' e
    exact ⟨b1, ho', by rw [upd_ne ha]; exact e1, r1⟩
theorem SRp.put {K : PySem.W.Frag} {B H : Hp} {m : Store} {p : Addr} {ho : HO} {mo mo0 : MO} (h : SRp K B H m) (hp : m p = some mo0) (r : MoRep K B ho mo) : SRp K B (upd H p ho) (sup m p mo) ∧ Frm B H m B (upd H p ho) (sup m p mo) := by
  obtain ⟨nb, ho0, eh, _⟩ := h.obj _ _ hp
  refine ⟨⟨fun b o e => by rw [upd_ne (ne_of_none e nb)]; exact h.same _ _ e, fun a mo' e => ?_⟩, fun a o e z => by rw [upd_ne (fun q => by subst q; rw [hp] at z; cases z)]; exact e, fun a o e z => by rw [sup_ne (fun q => by subst q; rw [hp] at z; cases z)]; exact z, fun _ _ _ _ z => z⟩
  by_cases ha : a = p
  · subst ha
    rw [sup_same] at e
    cases e
    exact ⟨nb, ho, upd_same, r⟩
  · rw [sup_ne ha] at e
    obtain ⟨b1, ho', e1, r1⟩ := h.obj a mo' e
    exact ⟨b1, ho', by rw [upd_ne ha]; exact e1, r1⟩
theorem SRp.freeze {K : PySem.W.Frag} {B H : Hp} {m : Store} {p : Addr} {ds : List D} (h : SRp K B H m) (hp : m p = some (.lst ds)) : ∃ vs, Same B (upd B p (.lst vs)) ∧ SRp K (upd B p (.lst vs)) H (sdel m p) ∧ Frm B H m (upd B p (.lst vs)) H (sdel m p) ∧ Dp K (upd B p (.lst vs)) (.ref p) (.lst ds) := by
  obtain ⟨nb, ho, eh, rh⟩ := h.obj _ _ hp
  cases ho with
  | lst vs =>
    have s1 : Same B (upd B p (.lst vs)) := fun b o e => by rw [upd_ne (ne_of_none e nb)]; exact e
    refine ⟨vs, s1, ⟨fun b o e => ?_, fun a mo e => ?_⟩, ⟨fun _ _ e _ => e, fun a o e z => ?_, fun a o e n z => by rw [upd_ne (fun q => by subst q; rw [hp] at n; cases n)]; exact z⟩, .lst upd_same (DpAll.mono s1 rh)⟩
    · by_cases hb : b = p
      · subst hb; rw [upd_same] at e; cases e; exact eh
      · rw [upd_ne hb] at e; exact h.same _ _ e
    · unfold sdel at e
      by_cases ha : a = p
      · rw [if_pos ha] at e; cases e
      · rw [if_neg ha] at e
        obtain ⟨b1, ho', e1, r1⟩ := h.obj a mo e
        exact ⟨by rw [upd_ne ha]; exact b1, ho', e1, r1.mono s1⟩
    · unfold sdel; split
      · rfl
      · exact z
  | _ => exact rh.elim
theorem SRp.list {K : PySem.W.Frag} {B H : Hp} {m : Store} {p : Addr} {ds : List D} (h : SRp K B H m) (hp : m p = some (.lst ds)) : ∃ vs, H p = some (.lst vs) ∧ DpAll K B vs ds := by
  obtain ⟨nb, ho, eh, rh⟩ := h.obj _ _ hp
  cases ho with
  | lst vs => exact ⟨vs, eh, rh⟩
  | _ => exact rh.elim
theorem SRp.ins {K : PySem.W.Frag} {B H : Hp} {m : Store} {p C : Addr} {fs : List (Str × D)} (h : SRp K B H m) (hp : m p = some (.ins C fs)) : ∃ dx gs, H p = some (.ins C dx gs) ∧ FRel K B gs fs := by
  obtain ⟨nb, ho, eh, rh⟩ := h.obj _ _ hp
  cases ho with
  | ins C' dx gs => obtain ⟨e, r⟩ := rh; subst e; exact ⟨dx, gs, eh, r⟩
  | _ => exact rh.elim
theorem SRp.dnt {K : PySem.W.Frag} {B H : Hp} {m : Store} {p q : Addr} {kvs : List (D × D)} (h : SRp K B H m) (hp : m p = some (.dnt q kvs)) : ∃ xs, H p = some (.ext (ndPhi q xs)) ∧ Paired (NdR K B) xs kvs := by
  obtain ⟨nb, ho, eh, rh⟩ := h.obj _ _ hp
  cases ho with
  | ext φ => obtain ⟨xs, e1, e2⟩ := rh; subst e1; exact ⟨xs, eh, e2⟩
  | _ => exact rh.elim
theorem SRp.dct {K : PySem.W.Frag} {B H : Hp} {m : Store} {p : Addr} {kvs : List (DKey × D)} (h : SRp K B H m) (hp : m p = some (.dct kvs)) : ∃ gs, H p = some (.dK gs) ∧ KRel K B gs kvs := by
  obtain ⟨nb, ho, eh, rh⟩ := h.obj _ _ hp
  cases ho with
  | dK gs => exact ⟨gs, eh, rh⟩
  | _ => exact rh.elim

def Thn (K : PySem.W.Frag) (B H : Hp) (m : Store) (R : KD) (Q : VK) : Prop := ∀ B' d m' v H', Same B B' → SRp K B' H' m' → Frm B H m B' H' m' → Dp K B' v d → R d m' → Q v H'
def ThX (K : PySem.W.Frag) (B H : Hp) (m : Store) (x : XD) (Q : Addr → Hp → Prop) : Prop := ∀ B' C m' H', Same B B' → SRp K B' H' m' → Frm B H m B' H' m' → x C m' → Q C H'
def up (K : PySem.W.Frag) (W : WX) (f : WE) : TE := fun σ H Q => ∃ B r m R x, ERp K B σ r ∧ SRp K B H m ∧ f r m R x ∧ Thn K B H m R Q ∧ ThX K B H m x fun C H' => W (.ref C) none σ H'
def upT (K : PySem.W.Frag) (W : WX) (f : WT) : TT := fun σ H Q => ∃ B r m R x, ERp K B σ r ∧ SRp K B H m ∧ f r m R x ∧ (∀ B' b m' H', Same B B' → SRp K B' H' m' → Frm B H m B' H' m' → R b m' → Q b H') ∧ ThX K B H m x fun C H' => W (.ref C) none σ H'
def upA (K : PySem.W.Frag) (W : WX) (f : WA) : TA := fun σ H Q => ∃ B r m R x, ERp K B σ r ∧ SRp K B H m ∧ f r m R x ∧ (∀ B' ds m' vs H', Same B B' → SRp K B' H' m' → Frm B H m B' H' m' → DpAll K B' vs ds → R ds m' → Q vs H') ∧ ThX K B H m x fun C H' => W (.ref C) none σ H'
structure ThS (K : PySem.W.Frag) (W : WX) (B H : Hp) (m : Store) (k : SK) (E : Ends) : Prop where
  nx : ∀ B' σ' r' m' H', Same B B' → SRp K B' H' m' → Frm B H m B' H' m' → ERp K B' σ' r' → k.nx r' m' → E.nx σ' H'
  rt : Thn K B H m k.rt E.rt
  ex : ∀ B' σ' r' C m' H', Same B B' → SRp K B' H' m' → Frm B H m B' H' m' → ERp K B' σ' r' → k.ex C m' → W (.ref C) none σ' H'
  bk : ∀ B' σ' r' m' H', Same B B' → SRp K B' H' m' → Frm B H m B' H' m' → ERp K B' σ' r' → k.bk r' m' → E.bk σ' H'
  ct : ∀ B' σ' r' m' H', Same B B' → SRp K B' H' m' → Frm B H m B' H' m' → ERp K B' σ' r' → k.ct r' m' → E.ct σ' H'
def upS (K : PySem.W.Frag) (W : WX) (f : WS) : TS := fun E σ H => ∃ B r m k, ERp K B σ r ∧ SRp K B H m ∧ f r m k ∧ ThS K W B H m k E

theorem PE.imp {X : Cx} {e : Expr} {t t' : TE} (h : PE X e t) (i : ∀ σ H Q, t' σ H Q → t σ H Q) : PE X e t' := ⟨fun pins s σ H Q I q => h.run pins s σ H Q I (i σ H Q q)⟩
theorem PT.imp {X : Cx} {e : Expr} {t t' : TT} (h : PT X e t) (i : ∀ σ H Q, t' σ H Q → t σ H Q) : PT X e t' := ⟨fun pins s σ H Q I q => h.run pins s σ H Q I (i σ H Q q)⟩
theorem PA.imp {X : Cx} {e : List Expr} {t t' : TA} (h : PA X e t) (i : ∀ σ H Q, t' σ H Q → t σ H Q) : PA X e t' := ⟨fun pos pins s σ H Q I q => h.run pos pins s σ H Q I (i σ H Q q)⟩
theorem PS.imp {X : Cx} {e : Stmt} {t t' : TS} (h : PS X e t) (i : ∀ E σ H, t' E σ H → t E σ H) : PS X e t' := ⟨fun pins s σ H E I q => h.run pins s σ H E I (i E σ H q)⟩
theorem PSs.imp {X : Cx} {e : List Stmt} {t t' : TS} (h : PSs X e t) (i : ∀ E σ H, t' E σ H → t E σ H) : PSs X e t' := ⟨fun pins s σ H E I q => h.run pins s σ H E I (i E σ H q)⟩

section
variable {K : PySem.W.Frag} {B B1 H H1 : Hp} {m m1 : Store}
theorem Thn.step {R : KD} {Q : VK} (h : Thn K B H m R Q) (e : Same B B1) (f : Frm B H m B1 H1 m1) : Thn K B1 H1 m1 R Q := fun B' d m' v H' a b c p q => h B' d m' v H' (e.trans a) b (f.trans c) p q
theorem ThX.step {x : XD} {Q : Addr → Hp → Prop} (h : ThX K B H m x Q) (e : Same B B1) (f : Frm B H m B1 H1 m1) : ThX K B1 H1 m1 x Q := fun B' C m' H' a b c q => h B' C m' H' (e.trans a) b (f.trans c) q
theorem ThS.step {W : WX} {k : SK} {E : Ends} (h : ThS K W B H m k E) (e : Same B B1) (f : Frm B H m B1 H1 m1) : ThS K W B1 H1 m1 k E :=
  ⟨fun B' σ' r' m' H' a b c => h.nx B' σ' r' m' H' (e.trans a) b (f.trans c), h.rt.step e f, fun B' σ' r' C m' H' a b c => h.ex B' σ' r' C m' H' (e.trans a) b (f.trans c), fun B' σ' r' m' H' a b c => h.bk B' σ' r' m' H' (e.trans a) b (f.trans c), fun B' σ' r' m' H' a b c => h.ct B' σ' r' m' H' (e.trans a) b (f.trans c)⟩
theorem ThS.x {W : WX} {k : SK} {E : Ends} {σ : L2.St} {r : Env} (h : ThS K W B H m k E) (er : ERp K B σ r) : ThX K B H m k.ex fun C H' => W (.ref C) none σ H' := fun B' C m' H' a b c q => h.ex B' σ r C m' H' a b c (er.mono a) q
end

def Eff (K : PySem.W.Frag) (B : Hp) (r : Hp → VK → Prop) (w : Store → KD → Prop) : Prop := ∀ H m R Q, SRp K B H m → w m R → Thn K B H m R Q → r H Q
theorem eff_ret {K : PySem.W.Frag} {B H : Hp} {m : Store} {R : KD} {Q : VK} {v : V} {d : D} (S : SRp K B H m) (h : Thn K B H m R Q) (p : Dp K B v d) (q : R d m) : Q v H := h B d m v H (Same.refl B) S Frm.refl p q
theorem eff_tup {K : PySem.W.Frag} {B H : Hp} {m : Store} {R : KD} {Q : VK} {vs : List V} {ds : List D} (S : SRp K B H m) (h : Thn K B H m R Q) (p : DpAll K B vs ds) (q : R (.tup ds) m) : ∀ a, H a = none → Q (.ref a) (upd H a (.tup vs)) := fun a n => by
  obtain ⟨s1, S1, f1⟩ := S.frz (ho := .tup vs) n
  exact h _ _ _ _ _ s1 S1 f1 (.tup (.inl (.inl upd_same)) (p.mono s1)) q
theorem eff_lst {K : PySem.W.Frag} {B H : Hp} {m : Store} {R : KD} {Q : VK} {vs : List V} {ds : List D} (S : SRp K B H m) (h : Thn K B H m R Q) (p : DpAll K B vs ds) (q : ∀ a, m a = none → R (.ref a) (sup m a (.lst ds))) : ∀ a, H a = none → Q (.ref a) (upd H a (.lst vs)) := fun a n => by
  obtain ⟨nm, S1, f1⟩ := S.new (ho := .lst vs) (mo := .lst ds) n p
  exact h _ _ _ _ _ (Same.refl B) S1 f1 (.ref a) (q a nm)
theorem eff_lstV {K : PySem.W.Frag} {B H : Hp} {m : Store} {R : KD} {Q : VK} {vs : List V} {ds : List D} (S : SRp K B H m) (h : Thn K B H m R Q) (p : DpAll K B vs ds) (q : R (.lst ds) m) : ∀ a, H a = none → Q (.ref a) (upd H a (.lst vs)) := fun a n => by
  obtain ⟨s1, S1, f1⟩ := S.frz (ho := .lst vs) n
  exact h _ _ _ _ _ s1 S1 f1 (.lst upd_same (p.mono s1)) q
theorem eff_nw {K : PySem.W.Frag} {B H : Hp} {m : Store} {R : KD} {Q : VK} {vs : List V} {ds : List D} : ∀ {b : Bool}, SRp K B H m → Thn K B H m R Q → DpAll K B vs ds → wNw b ds m R → ∀ a, H a = none → Q (.ref a) (upd H a (.lst vs))
  | true, S, h, p, q => eff_lst S h p q
  | false, S, h, p, q => eff_lstV S h p q
def OpD (X : Cx) (f : Value → Value → Sem Value) (w : W2) : Prop := ∃ r : R2, OpR X f r ∧ ∀ B u v d e, Dp X.K B u d → Dp X.K B v e → Eff X.K B (fun H Q => r u v H Q) (w d e)
def UnD (X : Cx) (f : Value → Sem Value) (w : W1) : Prop := ∃ r, UnR X f r ∧ ∀ B u d, Dp X.K B u d → Eff X.K B (fun H Q => r u H Q) (w d)
def CallD (X : Cx) (f : Value) (w : WL) : Prop := ∃ r, CallR X f r ∧ ∀ B us ds, DpAll X.K B us ds → Eff X.K B (fun H Q => r us H Q) (w ds)
def IxD (X : Cx) (w : W2) : Prop := ∃ r : R2, IxR X r ∧ ∀ B u v d e, Dp X.K B u d → Dp X.K B v e → Eff X.K B (fun H Q => r u v H Q) (w d e)
theorem OpD.or {X : Cx} {f : Value → Value → Sem Value} {w w' : W2} (h : OpD X f w) (h' : OpD X f w') : OpD X f (fun d e m R => w d e m R ∨ w' d e m R) := by
  obtain ⟨r, h1, h2⟩ := h
  obtain ⟨r', h1', h2'⟩ := h'
  refine ⟨_, h1.or h1', fun B u v d e p q H m R Q S hw t => ?_⟩
  rcases hw with z | z
  · exact .inl (h2 B u v d e p q H m R Q S z t)
  · exact .inr (h2' B u v d e p q H m R Q S z t)
end DL
end
section
set_option maxHeartbeats 0
namespace DL
open PySem PySem.Spec PyProof.Rows L2
section
variable {X : Cx} {W : WX} {a b c : Expr} {fa fb fc : WE} {pos : Pos}
theorem get_some {r : Env} {i : Nat} {d : D} (h : get r i = some d) : r[i]? = some (some d) := by
  rw [get_eq] at h
  cases q : r[i]? with
  | none => rw [q] at h; cases h
  | some o => rw [q] at h; cases o with
    | none => cases h
    | some e => cases h; rfl
theorem pd_var (i : Nat) {x : Str} (h : PE X (.Name x pos) (tVar i)) : PE X (.Name x pos) (up X.K W (wVar i)) := PE.imp h fun σ H Q ⟨B, r, m, R, x, er, S, h, t, _⟩ => by
  obtain ⟨d, e, q⟩ := ok_iff.mp h
  obtain ⟨v, e1, p⟩ := er.2 i d (get_some e)
  exact ⟨v, e1, eff_ret S t p q⟩
theorem pd_c {e : Expr} {v : V} {d : D} (h : PE X e (tC v)) (p : ∀ B, Dp X.K B v d) : PE X e (up X.K W (wC d)) := PE.imp h fun σ H Q ⟨B, r, m, R, x, er, S, h, t, _⟩ => eff_ret S t (p B) h
theorem pd_int {i j pos} : PE X (.Constant (.int i) j pos) (up X.K W (wC (.int i))) := pd_c pe_int fun _ => .int i
theorem pd_bl {i j pos} : PE X (.Constant (.bool i) j pos) (up X.K W (wC (.bl i))) := pd_c pe_bl fun _ => .bl i
theorem pd_non {j pos} : PE X (.Constant .none j pos) (up X.K W (wC .non)) := pd_c pe_non fun _ => .non
theorem pd_str {i j pos} : PE X (.Constant (.str i) j pos) (up X.K W (wC (.str i))) := pd_c pe_str fun _ => .str i
theorem two_up {σ : L2.St} {H : Hp} {Q : VK} {w : W2} {r : R2} (hw : ∀ B u v d e, Dp X.K B u d → Dp X.K B v e → Eff X.K B (fun H Q => r u v H Q) (w d e)) (h : up X.K W (wOp w fa fb) σ H Q) : tOp r (up X.K W fa) (up X.K W fb) σ H Q := by
  obtain ⟨B, ρ, m, R, x, er, S, h, t, tx⟩ := h
  refine ⟨B, ρ, m, _, x, er, S, h, fun B1 d m1 u H1 s1 S1 f1 p1 q1 => ?_, tx⟩
  refine ⟨B1, ρ, m1, _, x, er.mono s1, S1, q1, fun B2 e m2 v H2 s2 S2 f2 p2 q2 => ?_, tx.step s1 f1⟩
  exact hw B2 u v d e (p1.mono s2) p2 H2 m2 R Q S2 q2 (t.step (s1.trans s2) (f1.trans f2))
theorem pd_op {op : Operator} {w : W2} (ho : OpD X (binaryOp op) w) (ha : PE X a (up X.K W fa)) (hb : PE X b (up X.K W fb)) : PE X (.BinOp a op b pos) (up X.K W (wOp w fa fb)) := by
  obtain ⟨r, h1, h2⟩ := ho
  exact PE.imp (pe_op h1 ha hb) fun σ H Q h => two_up h2 h
theorem pd_cmp {op : CmpOp} {w : W2} (ho : OpD X (compareOp op) w) (ha : PE X a (up X.K W fa)) (hb : PE X b (up X.K W fb)) (hm : behindInMarks op b = false) : PE X (.Compare a [op] [b] pos) (up X.K W (wOp w fa fb)) := by
  obtain ⟨r, h1, h2⟩ := ho
  exact PE.imp (pe_cmpR h1 ha hb hm) fun σ H Q h => two_up h2 h
theorem test_up {σ : L2.St} {H : Hp} {Q : Bool → Hp → Prop} (h : upT X.K W (wTest fa) σ H Q) : tTest (up X.K W fa) σ H Q := by
  obtain ⟨B, ρ, m, R, x, er, S, h, t, tx⟩ := h
  refine ⟨B, ρ, m, _, x, er, S, h, fun B1 d m1 u H1 s1 S1 f1 p1 q1 => ?_, tx⟩
  cases p1 with
  | bl k => exact ⟨k, rfl, t B1 k m1 H1 s1 S1 f1 q1⟩
  | _ => exact q1.elim
theorem up_mono {f g : WE} (i : ∀ r m R x, g r m R x → f r m R x) {σ : L2.St} {H : Hp} {Q : VK} (h : up X.K W g σ H Q) : up X.K W f σ H Q := by
  obtain ⟨B, ρ, m, R, x, er, S, h, t, tx⟩ := h
  exact ⟨B, ρ, m, R, x, er, S, i _ _ _ _ h, t, tx⟩
theorem ptd_cmp {op : CmpOp} {w : W2} (ho : OpD X (compareOp op) w) (ha : PE X a (up X.K W fa)) (hb : PE X b (up X.K W fb)) (hm : behindInMarks op b = false) : PT X (.Compare a [op] [b] pos) (upT X.K W (wTest (wOp w fa fb))) := by
  obtain ⟨r, h1, h2⟩ := ho
  refine PT.imp (pt_cmpR h1 ha hb hm) fun σ H Q h => ?_
  have q := test_up h
  exact two_up (Q := fun x H' => ∃ k, x = .bl k ∧ Q k H') h2 q
theorem ptd_val (ha : PE X a (up X.K W fa)) (he : ∀ whole, isTrue a X.env whole = (do let v ← whole; standAt a.pos; holding [v] (truthy v)) := by intro _; rfl) : PT X a (upT X.K W (wTest fa)) := PT.imp (pt_val ha he) fun σ H Q h => test_up h
variable {ta tb : WT} {rest : List Expr}
theorem ptd_not (ha : PT X a (upT X.K W ta)) : PT X (.UnaryOp .Not a pos) (upT X.K W (wNot ta)) := PT.imp (pt_not ha) fun σ H Q h => by
  obtain ⟨B, ρ, m, R, x, er, S, h, t, tx⟩ := h
  exact ⟨B, ρ, m, _, x, er, S, h, fun B1 k m1 H1 s1 S1 f1 q1 => t B1 _ m1 H1 s1 S1 f1 q1, tx⟩
theorem pwd_and1 (ha : PT X a (upT X.K W ta)) : PW X (.BoolOp .And [a] pos) (upT X.K W ta) := pw_and1 ha
theorem pwd_or1 (ha : PT X a (upT X.K W ta)) : PW X (.BoolOp .Or [a] pos) (upT X.K W ta) := pw_or1 ha
theorem pwd_and (ha : PT X a (upT X.K W ta)) (hb : PW X (.BoolOp .And (b :: rest) pos) (upT X.K W tb)) : PW X (.BoolOp .And (a :: b :: rest) pos) (upT X.K W (wAnd ta tb)) := ⟨fun wh pins s σ H Q I h => (pw_and ha hb).run wh pins s σ H Q I (by
  obtain ⟨B, ρ, m, R, x, er, S, h, t, tx⟩ := h
  refine ⟨B, ρ, m, _, x, er, S, h, fun B1 k m1 H1 s1 S1 f1 q1 => ?_, tx⟩
  cases k with
  | true => rw [if_pos rfl] at q1 ⊢; exact ⟨B1, ρ, m1, R, x, er.mono s1, S1, q1, fun B2 k m2 H2 s2 S2 f2 q2 => t B2 k m2 H2 (s1.trans s2) S2 (f1.trans f2) q2, tx.step s1 f1⟩
  | false => rw [if_neg Bool.false_ne_true] at q1 ⊢; exact t B1 false m1 H1 s1 S1 f1 q1)⟩
theorem pwd_or (ha : PT X a (upT X.K W ta)) (hb : PW X (.BoolOp .Or (b :: rest) pos) (upT X.K W tb)) : PW X (.BoolOp .Or (a :: b :: rest) pos) (upT X.K W (wOr ta tb)) := ⟨fun wh pins s σ H Q I h => (pw_or ha hb).run wh pins s σ H Q I (by
  obtain ⟨B, ρ, m, R, x, er, S, h, t, tx⟩ := h
  refine ⟨B, ρ, m, _, x, er, S, h, fun B1 k m1 H1 s1 S1 f1 q1 => ?_, tx⟩
  cases k with
  | false => rw [if_neg Bool.false_ne_true] at q1 ⊢; exact ⟨B1, ρ, m1, R, x, er.mono s1, S1, q1, fun B2 k m2 H2 s2 S2 f2 q2 => t B2 k m2 H2 (s1.trans s2) S2 (f1.trans f2) q2, tx.step s1 f1⟩
  | true => rw [if_pos rfl] at q1 ⊢; exact t B1 true m1 H1 s1 S1 f1 q1)⟩
def wNotV (a : WE) : WE := fun r m R x => a r m (fun u m1 => match u with | .bl k => R (.bl (!k)) m1 | _ => False) x
def wAndV (a b : WE) : WE := fun r m R x => a r m (fun u m1 => match u with | .bl true => b r m1 R x | .bl false => R (.bl false) m1 | _ => False) x
def wOrV (a b : WE) : WE := fun r m R x => a r m (fun u m1 => match u with | .bl true => R (.bl true) m1 | .bl false => b r m1 R x | _ => False) x
theorem pd_not (ha : PE X a (up X.K W fa)) : PE X (.UnaryOp .Not a pos) (up X.K W (wNotV fa)) := PE.imp (pe_not ha) fun σ H Q h => by
  obtain ⟨B, ρ, m, R, x, er, S, h, t, tx⟩ := h
  refine ⟨B, ρ, m, _, x, er, S, h, fun B1 d m1 u H1 s1 S1 f1 p1 q1 => ?_, tx⟩
  cases p1 with
  | bl k => exact ⟨k, rfl, t B1 _ m1 _ H1 s1 S1 f1 (.bl _) q1⟩
  | _ => exact q1.elim
theorem pd_one {op} (ha : PE X a (up X.K W fa)) : PE X (.BoolOp op [a] pos) (up X.K W fa) := pe_one ha
theorem pd_and (ha : PE X a (up X.K W fa)) (hb : PE X (.BoolOp .And (b :: rest) pos) (up X.K W fb)) : PE X (.BoolOp .And (a :: b :: rest) pos) (up X.K W (wAndV fa fb)) := PE.imp (pe_and ha hb) fun σ H Q h => by
  obtain ⟨B, ρ, m, R, x, er, S, h, t, tx⟩ := h
  refine ⟨B, ρ, m, _, x, er, S, h, fun B1 d m1 u H1 s1 S1 f1 p1 q1 => ?_, tx⟩
  cases p1 with
  | bl k =>
    refine ⟨k, rfl, ?_⟩
    cases k with
    | true => rw [if_pos rfl]; exact ⟨B1, ρ, m1, R, x, er.mono s1, S1, q1, t.step s1 f1, tx.step s1 f1⟩
    | false => rw [if_neg Bool.false_ne_true]; exact t B1 _ m1 _ H1 s1 S1 f1 (.bl _) q1
  | _ => exact q1.elim
theorem pd_or (ha : PE X a (up X.K W fa)) (hb : PE X (.BoolOp .Or (b :: rest) pos) (up X.K W fb)) : PE X (.BoolOp .Or (a :: b :: rest) pos) (up X.K W (wOrV fa fb)) := PE.imp (pe_or ha hb) fun σ H Q h => by
  obtain ⟨B, ρ, m, R, x, er, S, h, t, tx⟩ := h
  refine ⟨B, ρ, m, _, x, er, S, h, fun B1 d m1 u H1 s1 S1 f1 p1 q1 => ?_, tx⟩
  cases p1 with
  | bl k =>
    refine ⟨k, rfl, ?_⟩
    cases k with
    | false => rw [if_neg Bool.false_ne_true]; exact ⟨B1, ρ, m1, R, x, er.mono s1, S1, q1, t.step s1 f1, tx.step s1 f1⟩
    | true => rw [if_pos rfl]; exact t B1 _ m1 _ H1 s1 S1 f1 (.bl _) q1
  | _ => exact q1.elim
theorem pd_if (hc : PT X c (upT X.K W ta)) (ha : PE X a (up X.K W fa)) (hb : PE X b (up X.K W fb)) : PE X (.IfExp c a b pos) (up X.K W (wIf ta fa fb)) := PE.imp (pe_ifExp hc ha hb) fun σ H Q h => by
  obtain ⟨B, ρ, m, R, x, er, S, h, t, tx⟩ := h
  refine ⟨B, ρ, m, _, x, er, S, h, fun B1 k m1 H1 s1 S1 f1 q1 => ?_, tx⟩
  cases k with
  | true => rw [if_pos rfl] at q1 ⊢; exact ⟨B1, ρ, m1, R, x, er.mono s1, S1, q1, t.step s1 f1, tx.step s1 f1⟩
  | false => rw [if_neg Bool.false_ne_true] at q1 ⊢; exact ⟨B1, ρ, m1, R, x, er.mono s1, S1, q1, t.step s1 f1, tx.step s1 f1⟩
theorem chain_up {σ : L2.St} {H : Hp} {Q : VK} {w w' : W2} {r r' : R2} (h2 : ∀ B u v d e, Dp X.K B u d → Dp X.K B v e → Eff X.K B (fun H Q => r u v H Q) (w d e)) (h2' : ∀ B u v d e, Dp X.K B u d → Dp X.K B v e → Eff X.K B (fun H Q => r' u v H Q) (w' d e))
    (h : up X.K W (wChain w w' fa fb fc) σ H Q) : tChain r r' (up X.K W fa) (up X.K W fb) (up X.K W fc) σ H Q := by
  obtain ⟨B, ρ, m, R, x, er, S, h, t, tx⟩ := h
  refine ⟨B, ρ, m, _, x, er, S, h, fun B1 d m1 u H1 s1 S1 f1 p1 q1 => ?_, tx⟩
  refine ⟨B1, ρ, m1, _, x, er.mono s1, S1, q1, fun B2 e m2 v H2 s2 S2 f2 p2 q2 => ?_, tx.step s1 f1⟩
  refine h2 B2 u v d e (p1.mono s2) p2 H2 m2 _ _ S2 q2 fun B3 z m3 zv H3 s3 S3 f3 p3 q3 => ?_
  cases p3 with
  | bl k =>
    refine ⟨k, rfl, ?_⟩
    cases k with
    | true =>
      rw [if_pos rfl]
      refine ⟨B3, ρ, m3, _, x, er.mono ((s1.trans s2).trans s3), S3, q3, fun B4 y m4 yv H4 s4 S4 f4 p4 q4 => ?_, tx.step ((s1.trans s2).trans s3) ((f1.trans f2).trans f3)⟩
      exact h2' B4 v yv e y (p2.mono (s3.trans s4)) p4 H4 m4 R Q S4 q4 (t.step (((s1.trans s2).trans s3).trans s4) (((f1.trans f2).trans f3).trans f4))
    | false =>
      rw [if_neg Bool.false_ne_true]
      exact t B3 _ m3 _ H3 ((s1.trans s2).trans s3) S3 ((f1.trans f2).trans f3) (.bl _) q3
  | _ => exact q3.elim
theorem pd_chain {op op' : CmpOp} {w w' : W2} (ho : OpD X (compareOp op) w) (ho' : OpD X (compareOp op') w') (ha : PE X a (up X.K W fa)) (hb : PE X b (up X.K W fb)) (hc : PE X c (up X.K W fc))
    (hm : lastMarks [op, op'] [b, c] = false := by with_unfolding_all rfl) : PE X (.Compare a [op, op'] [b, c] pos) (up X.K W (wChain w w' fa fb fc)) := by
  obtain ⟨r, h1, h2⟩ := ho
  obtain ⟨r', h1', h2'⟩ := ho'
  exact PE.imp (pe_chain h1 h1' ha hb hc hm) fun σ H Q h => chain_up h2 h2' h
theorem ptd_chain {op op' : CmpOp} {w w' : W2} (ho : OpD X (compareOp op) w) (ho' : OpD X (compareOp op') w') (ha : PE X a (up X.K W fa)) (hb : PE X b (up X.K W fb)) (hc : PE X c (up X.K W fc))
    (hm : lastMarks [op, op'] [b, c] = false := by with_unfolding_all rfl) : PT X (.Compare a [op, op'] [b, c] pos) (upT X.K W (wTest (wChain w w' fa fb fc))) := by
  obtain ⟨r, h1, h2⟩ := ho
  obtain ⟨r', h1', h2'⟩ := ho'
  exact PT.imp (pt_chain h1 h1' ha hb hc hm) fun σ H Q h => chain_up (Q := fun x H' => ∃ k, x = .bl k ∧ Q k H') h2 h2' (test_up h)
variable {es : List Expr} {ga : WA}
theorem pad_nil : PA X [] (upA X.K W wNil) := PA.imp pa_nil fun σ H Q ⟨B, r, m, R, x, er, S, h, t, _⟩ => t B [] m [] H (Same.refl B) S Frm.refl .nil h
theorem pad_cons (ha : PE X a (up X.K W fa)) (hr : PA X es (upA X.K W ga)) (hs : starEach (a :: es) X.env = (false, eval a X.env) :: starEach es X.env := by rfl) : PA X (a :: es) (upA X.K W (wCons fa ga)) := PA.imp (pa_cons ha hr hs) fun σ H Q h => by
  obtain ⟨B, ρ, m, R, x, er, S, h, t, tx⟩ := h
  refine ⟨B, ρ, m, _, x, er, S, h, fun B1 d m1 u H1 s1 S1 f1 p1 q1 => ?_, tx⟩
  refine ⟨B1, ρ, m1, _, x, er.mono s1, S1, q1, fun B2 ds m2 vs H2 s2 S2 f2 p2 q2 => ?_, tx.step s1 f1⟩
  exact t B2 _ m2 _ H2 (s1.trans s2) S2 (f1.trans f2) (.cons (p1.mono s2) p2) q2
theorem pd_tup {x1} (h : PA X es (upA X.K W ga)) : PE X (.Tuple es x1 pos) (up X.K W (wTup ga)) := PE.imp (pe_tup h) fun σ H Q h => by
  obtain ⟨B, ρ, m, R, x, er, S, h, t, tx⟩ := h
  refine ⟨B, ρ, m, _, x, er, S, h, fun B1 ds m1 vs H1 s1 S1 f1 p1 q1 => ?_, tx⟩
  exact ⟨by rw [← LIM_eq, p1.length]; exact q1.1, eff_tup S1 (t.step s1 f1) p1 q1.2⟩
theorem pd_lst {b : Bool} (h : PA X es (upA X.K W ga)) : PE X (.List es pos) (up X.K W (wLst b ga)) := PE.imp (pe_lst h) fun σ H Q h => by
  obtain ⟨B, ρ, m, R, x, er, S, h, t, tx⟩ := h
  refine ⟨B, ρ, m, _, x, er, S, h, fun B1 ds m1 vs H1 s1 S1 f1 p1 q1 => ?_, tx⟩
  exact ⟨by rw [← LIM_eq, p1.length]; exact q1.1, eff_nw S1 (t.step s1 f1) p1 q1.2⟩
theorem pd_frz (h : PE X a (up X.K W fa)) : PE X a (up X.K W (wFrz fa)) := PE.imp h fun σ H Q h => by
  obtain ⟨B, ρ, m, R, x, er, S, h, t, tx⟩ := h
  refine ⟨B, ρ, m, _, x, er, S, h, fun B1 d m1 u H1 s1 S1 f1 p1 q1 => ?_, tx⟩
  obtain ⟨b, ds, rfl, hb, q⟩ := q1
  obtain ⟨vs, s2, S2, f2, p2⟩ := S1.freeze hb
  have eu : u = .ref b := by cases p1; rfl
  subst eu
  exact t _ _ _ _ _ (s1.trans s2) S2 (f1.trans f2) p2 q
theorem call_up {σ : L2.St} {H : Hp} {Q : VK} {w : WL} {r : List V → Hp → VK → Prop} (hw : ∀ B us ds, DpAll X.K B us ds → Eff X.K B (fun H Q => r us H Q) (w ds)) (h : up X.K W (wCallB w ga) σ H Q) : tCB r (upA X.K W ga) σ H Q := by
  obtain ⟨B, ρ, m, R, x, er, S, h, t, tx⟩ := h
  refine ⟨B, ρ, m, _, x, er, S, h, fun B1 ds m1 vs H1 s1 S1 f1 p1 q1 => ?_, tx⟩
  exact hw B1 vs ds p1 H1 m1 R Q S1 q1 (t.step s1 f1)
theorem pd_callB {id : String} {x : Str} {w : WL} {p : Pos} (hc : CallD X (.builtin id) w) (hg : Gl X x) (hm : X.mg x = none) (hv : bootBuiltins x = some (.builtin id)) (ha : PA X (a :: es) (upA X.K W ga)) (hn : x ≠ "__name__" := by decide) (hdb : (x == ("__debug__" : Str)) = false := by decide)
    (he : starEach (a :: es) X.env = (false, eval a X.env) :: starEach es X.env := by rfl) (hpl : (backTo pos (starEach es X.env)).any (·.1) = false := by rfl) : PE X (.Call (.Name x p) (a :: es) [] pos) (up X.K W (wCallB w ga)) := by
  obtain ⟨r, h1, h2⟩ := hc
  exact PE.imp (pe_callB h1 hg hm hv ha hn hdb he hpl) fun σ H Q h => call_up h2 h
theorem pd_callTy {T : String} {x : Str} {w : WL} {p : Pos} (hc : CallD X (.type T) w) (hg : Gl X x) (hm : X.mg x = none) (hv : bootBuiltins x = some (.type T)) (ha : PA X (a :: es) (upA X.K W ga)) (hn : x ≠ "__name__" := by decide) (hdb : (x == ("__debug__" : Str)) = false := by decide)
    (he : starEach (a :: es) X.env = (false, eval a X.env) :: starEach es X.env := by rfl) (hpl : (backTo pos (starEach es X.env)).any (·.1) = false := by rfl) : PE X (.Call (.Name x p) (a :: es) [] pos) (up X.K W (wCallB w ga)) := by
  obtain ⟨r, h1, h2⟩ := hc
  exact PE.imp (pe_callTy h1 hg hm hv ha hn hdb he hpl) fun σ H Q h => call_up h2 h
theorem pd_ix {w : W2} (hr : IxD X w) (ha : PE X a (up X.K W fa)) (hb : PE X b (up X.K W fb)) (hs : PlainIx b) : PE X (.Subscript a b pos) (up X.K W (wOp w fa fb)) := by
  obtain ⟨r, h1, h2⟩ := hr
  exact PE.imp (pe_ix h1 ha hb hs) fun σ H Q h => two_up h2 h
theorem pd_un {op : UnaryOp} {w : W1} (ho : UnD X (unaryOp op) w) (ha : PE X a (up X.K W fa)) : PE X (.UnaryOp op a pos) (up X.K W (wUn w fa)) := by
  obtain ⟨r, h1, h2⟩ := ho
  refine PE.imp (pe_un h1 ha) fun σ H Q h => ?_
  obtain ⟨B, ρ, m, R, x, er, S, h, t, tx⟩ := h
  refine ⟨B, ρ, m, _, x, er, S, h, fun B1 d m1 u H1 s1 S1 f1 p1 q1 => ?_, tx⟩
  exact h2 B1 u d p1 H1 m1 R Q S1 q1 (t.step s1 f1)
abbrev WSl := D → Option Int → Option Int → Store → KD → Prop
abbrev WO := Env → Store → (Option Int → Store → Prop) → XD → Prop
def upO (K : PySem.W.Frag) (W : WX) (f : WO) : TO := fun σ H Q => ∃ B r m R x, ERp K B σ r ∧ SRp K B H m ∧ f r m R x ∧ (∀ B' b m' H', Same B B' → SRp K B' H' m' → Frm B H m B' H' m' → R b m' → Q b H') ∧ ThX K B H m x fun C H' => W (.ref C) none σ H'
def oNone : WO := fun _ m R _ => R none m
def oSome (a : WE) : WO := fun r m R x => a r m (fun u m1 => match u with | .int i => R (some i) m1 | _ => False) x
theorem PO.imp {e : Option Expr} {t t' : TO} (h : PO X e t) (i : ∀ σ H Q, t' σ H Q → t σ H Q) : PO X e t' := ⟨fun pins s σ H Q I q => h.run pins s σ H Q I (i σ H Q q)⟩
theorem pod_none : PO X none (upO X.K W oNone) := PO.imp po_none fun σ H Q ⟨B, r, m, R, x, er, S, h, t, _⟩ => t B _ m H (Same.refl B) S Frm.refl h
theorem pod_some (ha : PE X a (up X.K W fa)) : PO X (some a) (upO X.K W (oSome fa)) := PO.imp (po_some ha) fun σ H Q h => by
  obtain ⟨B, ρ, m, R, x, er, S, h, t, tx⟩ := h
  refine ⟨B, ρ, m, _, x, er, S, h, fun B1 d m1 u H1 s1 S1 f1 p1 q1 => ?_, tx⟩
  cases p1 with
  | int k => exact ⟨k, rfl, t B1 _ m1 H1 s1 S1 f1 q1⟩
  | _ => exact q1.elim
def SlD (X : Cx) (w : WSl) : Prop := ∃ r, SlR X r ∧ ∀ B u d lo hi, Dp X.K B u d → Eff X.K B (fun H Q => r u lo hi H Q) (w d lo hi)
def wSl (w : WSl) (a : WE) (l h : WO) : WE := fun r m R x => a r m (fun u m1 => l r m1 (fun lo m2 => h r m2 (fun hi m3 => w u lo hi m3 R) x) x) x
theorem pd_sl {w : WSl} {lo hi : Option Expr} {fl fh : WO} {p2 : Pos} (hw : SlD X w) (ha : PE X a (up X.K W fa)) (hl : PO X lo (upO X.K W fl)) (hh : PO X hi (upO X.K W fh)) : PE X (.Subscript a (.Slice lo hi none p2) pos) (up X.K W (wSl w fa fl fh)) := by
  obtain ⟨r, h1, h2⟩ := hw
  refine PE.imp (pe_slice h1 ha hl hh) fun σ H Q h => ?_
  obtain ⟨B, ρ, m, R, x, er, S, h, t, tx⟩ := h
  refine ⟨B, ρ, m, _, x, er, S, h, fun B1 d m1 u H1 s1 S1 f1 p1 q1 => ?_, tx⟩
  refine ⟨B1, ρ, m1, _, x, er.mono s1, S1, q1, fun B2 lo m2 H2 s2 S2 f2 q2 => ?_, tx.step s1 f1⟩
  refine ⟨B2, ρ, m2, _, x, er.mono (s1.trans s2), S2, q2, fun B3 hi m3 H3 s3 S3 f3 q3 => ?_, tx.step (s1.trans s2) (f1.trans f2)⟩
  exact h2 B3 u d lo hi (p1.mono (s2.trans s3)) H3 m3 R Q S3 q3 (t.step ((s1.trans s2).trans s3) ((f1.trans f2).trans f3))
end
end DL
end
section
set_option maxHeartbeats 0
namespace DL
open PySem PySem.Spec PyProof.Rows L2
section
variable {X : Cx} {W : WX} {a b c : Expr} {fa fb fc : WE} {pos : Pos} {st : Stmt} {rest : List Stmt} {s1 s2 : WS} {ta : WT}
theorem psd_nil : PSs X [] (upS X.K W wNext) := PSs.imp pss_nil fun E σ H ⟨B, r, m, k, er, S, h, t⟩ => t.nx B σ r m H (Same.refl B) S Frm.refl er h
theorem psd_cons (h1 : PS X st (upS X.K W s1)) (h2 : PSs X rest (upS X.K W s2)) : PSs X (st :: rest) (upS X.K W (wSeq s1 s2)) := PSs.imp (pss_cons h1 h2) fun E σ H ⟨B, r, m, k, er, S, h, t⟩ =>
  ⟨B, r, m, _, er, S, h, ⟨fun B' σ' r' m' H' a b c d q => ⟨B', r', m', k, d, b, q, t.step a c⟩, t.rt, t.ex, t.bk, t.ct⟩⟩
theorem psd_one (h1 : PS X st (upS X.K W s1)) : PSs X [st] (upS X.K W s1) := pss_one h1
theorem psd_pass : PS X (.Pass pos) (upS X.K W wNext) := PS.imp ps_pass fun E σ H ⟨B, r, m, k, er, S, h, t⟩ => t.nx B σ r m H (Same.refl B) S Frm.refl er h
def wBreak : WS := fun r m k => k.bk r m
def wCont : WS := fun r m k => k.ct r m
theorem psd_break : PS X (.Break pos) (upS X.K W wBreak) := PS.imp ps_break fun E σ H ⟨B, r, m, k, er, S, h, t⟩ => t.bk B σ r m H (Same.refl B) S Frm.refl er h
theorem psd_expr (ha : PE X a (up X.K W fa)) (hs : swapsWith a none pos.line X.env = pure false := by rfl) : PS X (.Expr a pos) (upS X.K W (wExp fa)) := PS.imp (ps_expr ha hs) fun E σ H ⟨B, r, m, k, er, S, h, t⟩ =>
  ⟨B, r, m, _, _, er, S, h, fun B' d m' v H' s1 S1 f1 p q => t.nx B' σ r m' H' s1 S1 f1 (er.mono s1) q, t.x er⟩
theorem psd_ret (ha : PE X a (up X.K W fa)) : PS X (.Return (some a) pos) (upS X.K W (wRet fa)) := PS.imp (ps_ret ha) fun E σ H ⟨B, r, m, k, er, S, h, t⟩ => ⟨B, r, m, _, _, er, S, h, t.rt, t.x er⟩
theorem psd_retN : PS X (.Return none pos) (upS X.K W wRetN) := PS.imp ps_retN fun E σ H ⟨B, r, m, k, er, S, h, t⟩ => t.rt B _ m _ H (Same.refl B) S Frm.refl .non h
theorem psd_if {u v : List Stmt} (hc : PT X c (upT X.K W ta)) (ha : PSs X u (upS X.K W s1)) (hb : PSs X v (upS X.K W s2)) : PS X (.If c u v pos) (upS X.K W (wIfS ta s1 s2)) := PS.imp (ps_if hc ha hb) fun E σ H ⟨B, r, m, k, er, S, h, t⟩ => by
  refine ⟨B, r, m, _, _, er, S, h, fun B1 q m1 H1 e1 S1 f1 q1 => ?_, t.x er⟩
  cases q with
  | true => rw [if_pos rfl] at q1 ⊢; exact ⟨B1, r, m1, k, er.mono e1, S1, q1, t.step e1 f1⟩
  | false => rw [if_neg Bool.false_ne_true] at q1 ⊢; exact ⟨B1, r, m1, k, er.mono e1, S1, q1, t.step e1 f1⟩
theorem psd_set {i : Nat} {x : Str} {pos' : Pos} (hN : X.N.Nodup) (hi : X.N[i]? = some x) (hx : Loc X.env.scope x) (ha : PE X a (up X.K W fa)) (hs : swapsWith a (some (.Name x pos')) pos.line X.env = pure false := by rfl) (hf : X.fn x = true ∨ X.env.scope.names.lookup x = some .local := by first | exact .inl rfl | exact .inr rfl | assumption) :
    PS X (.Assign [.Name x pos'] a pos) (upS X.K W (wSet i fa)) := PS.imp (ps_set hN hi hx ha hs hf) fun E σ H ⟨B, r, m, k, er, S, h, t⟩ =>
  ⟨B, r, m, _, _, er, S, h, fun B' d m' v H' s1 S1 f1 p q => t.nx B' _ _ m' H' s1 S1 f1 ((er.mono s1).set i p) q, t.x er⟩
def upG (K : PySem.W.Frag) (g : WG) (t : TG) : Prop := ∀ B v d σ r H m Kd (Q : L2.St → Hp → Prop), ERp K B σ r → SRp K B H m → Dp K B v d → g d r m Kd → (∀ B' σ' r' m' H', Same B B' → SRp K B' H' m' → Frm B H m B' H' m' → ERp K B' σ' r' → Kd r' m' → Q σ' H') → t v σ H Q
theorem g_name {K : PySem.W.Frag} (i : Nat) : upG K (gNm i) (gName i) := fun B v d σ r H m Kd Q er S p h q => q B _ _ m H (Same.refl B) S Frm.refl (er.set i p) h
def gNames : List Nat → TGs
  | [] => gNil
  | i :: is => gCons (gName i) (gNames is)
theorem gNames_ok {K : PySem.W.Frag} {B : Hp} {Q : L2.St → Hp → Prop} {H : Hp} : ∀ (is : List Nat) (vs : List V) (ds : List D) (σ : L2.St) (r : Env), ERp K B σ r → DpAll K B vs ds → ds.length = is.length → (∀ σ', ERp K B σ' (putAll r is ds) → Q σ' H) → gNames is vs σ H Q
  | [], _, _, σ, r, er, p, hl, q => by
    cases p with
    | nil => exact ⟨rfl, q σ er⟩
    | cons _ _ => simp at hl
  | i :: is, _, _, σ, r, er, p, hl, q => by
    cases p with
    | nil => simp at hl
    | cons h t => exact ⟨_, _, rfl, gNames_ok is _ _ _ _ (er.set i h) t (by simpa using hl) q⟩
theorem g_tup {K : PySem.W.Frag} (is : List Nat) : upG K (gTp is) (gTup K is.length (gNames is)) := fun B v d σ r H m Kd Q er S p h q => by
  cases p with
  | tup hs hp =>
    exact ⟨_, _, rfl, sqT_mono S.same hs, hp.length.trans h.1, gNames_ok is _ _ σ r er hp h.1 fun σ' er' => q B σ' _ m H (Same.refl B) S Frm.refl er' h.2⟩
  | _ => exact h.elim
theorem g_lst {K : PySem.W.Frag} (is : List Nat) : upG K (gLs is) (gLst K is.length (gNames is)) := fun B v d σ r H m Kd Q er S p h q => by
  cases p with
  | lst hs hp =>
    exact ⟨_, _, rfl, .inl (.inl (S.same _ _ hs)), hp.length.trans h.1, gNames_ok is _ _ σ r er hp h.1 fun σ' er' => q B σ' _ m H (Same.refl B) S Frm.refl er' h.2⟩
  | _ => exact h.elim
theorem psd_asg {tg : Expr} {g : WG} {t : TG} (ha : PE X a (up X.K W fa)) (hg : PG X tg t) (ug : upG X.K g t) (hs : swapsWithSole [tg] a pos.line X.env = pure false := by rfl) (hw : swappedStores [tg] a X.env = pure none := by rfl)
    (h1 : (assignEach [tg] X.env).map (·.2) = [assign tg X.env] := by rfl) : PS X (.Assign [tg] a pos) (upS X.K W (wAsg fa g)) := PS.imp (ps_asg ha hg hs hw h1) fun E σ H ⟨B, r, m, k, er, S, h, t⟩ =>
  ⟨B, r, m, _, _, er, S, h, fun B' d m' v H' s1 S1 f1 p q => ug B' v d σ r H' m' _ _ (er.mono s1) S1 p q fun B2 σ2 r2 m2 H2 s2 S2 f2 e2 q2 => t.nx B2 σ2 r2 m2 H2 (s1.trans s2) S2 (f1.trans f2) e2 q2, t.x er⟩
def wPar (i j : Nat) (a : WA) : WS := fun r m k => a r m (fun us m1 => match us with | [u, v] => k.nx (put (put r i (some u)) j (some v)) m1 | _ => False) k.ex
theorem psd_par {ga : WA} {i j : Nat} {x y : Str} {px py pt : Pos} {kt k2 pt2} (hc : X.calm = true) (hN : X.N.Nodup) (hi : X.N[i]? = some x) (hj : X.N[j]? = some y) (hij : i ≠ j)
    (hx : X.env.scope.names.lookup x = some .local) (hy : X.env.scope.names.lookup y = some .local) (ha : PA X [a, b] (upA X.K W ga))
    (hw : swappedStores [.Tuple [.Name x px, .Name y py] kt pt] (.Tuple [a, b] k2 pt2) X.env = pure (some [x, y]))
    (hs : swapsWithSole [.Tuple [.Name x px, .Name y py] kt pt] (.Tuple [a, b] k2 pt2) pos.line X.env = pure false := by rfl) :
    PS X (.Assign [.Tuple [.Name x px, .Name y py] kt pt] (.Tuple [a, b] k2 pt2) pos) (upS X.K W (wPar i j ga)) := PS.imp (ps_par hc hN hi hj hij hx hy ha hw hs) fun E σ H ⟨B, r, m, k, er, S, h, t⟩ => by
  refine ⟨B, r, m, _, _, er, S, h, fun B1 ds m1 vs H1 e1 S1 f1 p1 q1 => ?_, t.x er⟩
  cases p1 with
  | nil => exact q1.elim
  | cons h1 t1 => cases t1 with
    | nil => exact q1.elim
    | cons h2 t2 => cases t2 with
      | cons _ _ => exact q1.elim
      | nil => exact ⟨_, _, rfl, t.nx B1 _ _ m1 H1 e1 S1 f1 (((er.mono e1).set i h1).set j h2) q1⟩
structure IRp (K : PySem.W.Frag) (B : Hp) (J : It) (ds : List D) (G : Store → Prop) : Prop where
  goes : ∀ i B' H m, i < ds.length → Same B B' → SRp K B' H m → G m → J.go i H
  stops : ∀ B' H m, Same B B' → SRp K B' H m → G m → J.stop ds.length H
  yields : ∀ i B' H m x H', i < ds.length → Same B B' → SRp K B' H m → G m → J.yld i H x H' → ∃ B2 d, ds[i]? = some d ∧ Same B' B2 ∧ SRp K B2 H' m ∧ Frm B' H m B2 H' m ∧ Dp K B2 x d
def upI (K : PySem.W.Frag) (W : WX) (f : WI) : TI := fun σ H R => ∃ B r m R' x, ERp K B σ r ∧ SRp K B H m ∧ f r m R' x ∧ (∀ B' ds G m' H' J, Same B B' → SRp K B' H' m' → Frm B H m B' H' m' → IRp K B' J ds G → R' ds G m' → R J H') ∧ ThX K B H m x fun C H' => W (.ref C) none σ H'
theorem PI.imp {tg it : Expr} {t t' : TI} (h : PI X tg it t) (i : ∀ σ H R, t' σ H R → t σ H R) : PI X tg it t' := ⟨fun pins s σ H R I q => h.run pins s σ H R I (i σ H R q)⟩
theorem drop_cons {ds : List D} {i : Nat} {d : D} (h : ds[i]? = some d) : ds.drop i = d :: ds.drop (i + 1) := by
  obtain ⟨hi, e⟩ := List.getElem?_eq_some_iff.mp h
  rw [List.drop_eq_getElem_cons hi, e]
theorem psd_for {tg iter : Expr} {body : List Stmt} {fi : WI} {g : WG} {t : TG} (hp : PassesOwn (model X.prog X.w) X.A X.env X.xe) (hc : X.calm = true) (hi : PI X tg iter (upI X.K W fi)) (hg : PG X tg t) (ug : upG X.K g t) (hb : PSs X body (upS X.K W s1))
    (hs : ∀ x, foldedSetIterable iter X.env x = pure x := by intro _; rfl) : PS X (.For tg iter body [] pos) (upS X.K W (wFor fi g s1)) := PS.imp (ps_for hp hc hi hg hb hs) fun E σ H ⟨B, r, m, k, er, S, h, t⟩ => by
  refine ⟨B, r, m, _, _, er, S, h, fun B1 ds G m1 H1 J e1 S1 f1 ir q1 => ?_, t.x er⟩
  have Wk : Walk J ds.length (fun H => ∃ B' m, Same B1 B' ∧ SRp X.K B' H m ∧ G m) (fun i H x H' => J.yld i H x H') :=
    ⟨fun i H hi ⟨B', m, a, b, c⟩ => ir.goes i B' H m hi a b c, fun H ⟨B', m, a, b, c⟩ => ir.stops B' H m a b c, fun i H x H' _ _ y => y⟩
  have T1 := t.step e1 f1
  refine for_it Wk (fun i σ' H' => ∃ B' r' m', Same B1 B' ∧ SRp X.K B' H' m' ∧ Frm B1 H1 m1 B' H' m' ∧ ERp X.K B' σ' r' ∧ wForL G g s1 (ds.drop i) r' m' k) ⟨B1, r, m1, Same.refl _, S1, Frm.refl, er.mono e1, q1⟩ ?_ ?_ ?_
  · rintro i σ' H' hi ⟨B', r', m', a, b, c, d, q⟩
    refine ⟨B', m', a, b, ?_⟩
    cases e : ds.drop i with
    | nil => rw [e] at q; exact q.1
    | cons => rw [e] at q; exact q.1
  · rintro i x σ' H' H2 hi ⟨B', r', m', a, b, c, d, q⟩ y
    have hG : G m' := by
      cases e : ds.drop i with
      | nil => rw [e] at q; exact q.1
      | cons => rw [e] at q; exact q.1
    obtain ⟨B2, dd, ed, s2, S2, f2, p2⟩ := ir.yields i B' H' m' x H2 hi a b hG y
    rw [drop_cons ed] at q
    refine ug B2 x dd σ' r' H2 m' _ _ (d.mono s2) S2 p2 q.2 fun B3 σ3 r3 m3 H3 s3 S3 f3 e3 q3 => ?_
    have F3 : Frm B1 H1 m1 B3 H3 m3 := (c.trans f2).trans f3
    have A3 : Same B1 B3 := (a.trans s2).trans s3
    refine ⟨B3, r3, m3, _, e3, S3, q3, ⟨fun B4 σ4 r4 m4 H4 s4 S4 f4 e4 q4 => ⟨B4, r4, m4, A3.trans s4, S4, F3.trans f4, e4, q4⟩, T1.rt.step A3 F3, fun B4 σ4 r4 C m4 H4 s4 S4 f4 e4 q4 => T1.ex B4 σ4 r4 C m4 H4 (A3.trans s4) S4 (F3.trans f4) e4 q4,
      fun B4 σ4 r4 m4 H4 s4 S4 f4 e4 q4 => T1.nx B4 σ4 r4 m4 H4 (A3.trans s4) S4 (F3.trans f4) e4 q4, fun B4 σ4 r4 m4 H4 s4 S4 f4 e4 q4 => ⟨B4, r4, m4, A3.trans s4, S4, F3.trans f4, e4, q4⟩⟩⟩
  · rintro σ' H' ⟨B', r', m', a, b, c, d, q⟩
    rw [List.drop_length] at q
    exact T1.nx B' σ' r' m' H' a b c d q.2
theorem psd_while {body : List Stmt} (hp : PassesOwn (model X.prog X.w) X.A X.env X.xe) (hc : PT X c (upT X.K W ta)) (hb : PSs X body (upS X.K W s1)) : PS X (.While c body [] pos) (upS X.K W (wWhile ta s1)) := PS.imp (ps_while hp hc hb) fun E σ H ⟨B, r, m, k, er, S, h, t⟩ => by
  obtain ⟨n, h⟩ := h
  refine ⟨fun n σ' H' => ∃ B' r' m', Same B B' ∧ SRp X.K B' H' m' ∧ Frm B H m B' H' m' ∧ ERp X.K B' σ' r' ∧ wWhN ta s1 n r' m' k, ⟨n, B, r, m, Same.refl _, S, Frm.refl, er, h⟩, ?_⟩
  rintro n σ' H' ⟨B', r', m', a, b, c, d, q⟩
  cases n with
  | zero => exact q.elim
  | succ n =>
    refine ⟨B', r', m', _, _, d, b, q, fun B1 v m1 H1 e1 S1 f1 q1 => ?_, fun B1 C m1 H1 e1 S1 f1 q1 => t.ex B1 σ' r' C m1 H1 (a.trans e1) S1 (c.trans f1) (d.mono e1) q1⟩
    have T1 := t.step (a.trans e1) (c.trans f1)
    cases v with
    | false => exact iteF (t.nx B1 σ' r' m1 H1 (a.trans e1) S1 (c.trans f1) (d.mono e1) q1)
    | true =>
      refine iteT ⟨fun σ' H' => ∃ B' r' m', Same B B' ∧ SRp X.K B' H' m' ∧ Frm B H m B' H' m' ∧ ERp X.K B' σ' r' ∧ wWhN ta s1 n r' m' k, fun σ2 H2 hn => ⟨n, Nat.lt_succ_self n, hn⟩, ?_⟩
      exact ⟨B1, r', m1, _, d.mono e1, S1, q1, ⟨fun B4 σ4 r4 m4 H4 s4 S4 f4 e4 q4 => ⟨B4, r4, m4, (a.trans e1).trans s4, S4, (c.trans f1).trans f4, e4, q4⟩, T1.rt, T1.ex, T1.nx, fun B4 σ4 r4 m4 H4 s4 S4 f4 e4 q4 => ⟨B4, r4, m4, (a.trans e1).trans s4, S4, (c.trans f1).trans f4, e4, q4⟩⟩⟩
def W0 : WX := fun _ _ _ _ => False
theorem lc_up {bb : Bool} {fi : WI} {g : WG} {tg : TG} {t : WT} {e : WE} {vs : List Nat} {σ : L2.St} {H : Hp} {Q : VK} (ug : upG X.K g tg) (hw : ∀ x σ H Q, tg x (wipe σ vs) H Q → tg x (wipe σ vs) H fun σ2 H2 => wipe σ2 vs = wipe σ vs ∧ Q σ2 H2)
    (h : up X.K W (wLc bb vs fi g t e) σ H Q) : tLc (upI X.K W fi) tg (upT X.K W0 t) (up X.K W0 e) vs σ H Q := by
  obtain ⟨B, r, m, R, x, er, S, h, th, tx⟩ := h
  refine ⟨B, r, m, _, x, er, S, h, fun B1 ds G m1 H1 J e1 S1 f1 ir q1 => fun Dl hD => ?_, tx⟩
  have Wk : Walk J ds.length (fun H => ∃ B' m, Same B1 B' ∧ SRp X.K B' H m ∧ G m) (fun i H x H' => J.yld i H x H') :=
    ⟨fun i H hi ⟨B', m, a, b, c⟩ => ir.goes i B' H m hi a b c, fun H ⟨B', m, a, b, c⟩ => ir.stops B' H m a b c, fun i H x H' _ _ y => y⟩
  have hB1 : B1 Dl = none := by
    cases q : B1 Dl with
    | none => rfl
    | some o => rw [S1.same _ _ q] at hD; cases hD
  have hm1 : m1 Dl = none := by
    cases q : m1 Dl with
    | none => rfl
    | some o => obtain ⟨_, ho', z, _⟩ := S1.obj _ _ q; rw [z] at hD; cases hD
  let Kf : List D → Store → Prop := fun us m2 => wNw bb us m2 R
  let Pv : Nat → Hp → Prop := fun i H' => ∃ B' m' acc vacc, Same B1 B' ∧ SRp X.K B' H' m' ∧ Frm B1 H1 m1 B' H' m' ∧ B' Dl = none ∧ m' Dl = none ∧ H' Dl = some (.lst vacc) ∧ DpAll X.K B' vacc acc ∧ wLcL G vs g t e r (ds.drop i) acc m' Kf
  have put : ∀ {B' H' : Hp} {m' : Store} {o : HO}, SRp X.K B' H' m' → B' Dl = none → m' Dl = none → SRp X.K B' (upd H' Dl o) m' := fun {B' H' m' o} S' hB hm => ⟨fun b u z => by rw [upd_ne (ne_of_none z hB)]; exact S'.same _ _ z, fun a mo z => by
    obtain ⟨z1, ho, z2, z3⟩ := S'.obj a mo z
    exact ⟨z1, ho, by rw [upd_ne (fun q => by subst q; rw [hm] at z; cases z)]; exact z2, z3⟩⟩
  have fput : ∀ {B' H' : Hp} {m' : Store} {o : HO}, Frm B1 H1 m1 B' H' m' → Frm B1 H1 m1 B' (upd H' Dl o) m' := fun {B' H' m' o} f => ⟨fun a ho z n => by rw [upd_ne (ne_of_none z hD)]; exact f.keep a ho z n, f.out, f.bout⟩
  refine lc_it Wk Pv ⟨B1, m1, [], [], Same.refl _, put S1 hB1 hm1, fput Frm.refl, hB1, hm1, upd_same, .nil, q1⟩ ?_ ?_ ?_
  · rintro i H' hi ⟨B', m', acc, vacc, a, b, c, d1, d2, d3, d4, q⟩
    refine ⟨B', m', a, b, ?_⟩
    cases z : ds.drop i with
    | nil => rw [z] at q; exact q.1
    | cons => rw [z] at q; exact q.1
  · rintro i xv H' H2 hi ⟨B', m', acc, vacc, a, b, c, d1, d2, d3, d4, q⟩ y
    have hG : G m' := by
      cases z : ds.drop i with
      | nil => rw [z] at q; exact q.1
      | cons => rw [z] at q; exact q.1
    obtain ⟨B2, dd, ed, s2, S2, f2, p2⟩ := ir.yields i B' H' m' xv H2 hi a b hG y
    rw [drop_cons ed] at q
    have h2D : H2 Dl = some (.lst vacc) := f2.keep _ _ d3 d2
    have c2 := c.trans f2
    refine hw _ _ _ _ (ug B2 xv dd _ _ H2 m' _ _ ((er.mono (e1.trans (a.trans s2))).wipe vs) S2 p2 q.2 fun B3 σ3 r3 m3 H3 s3 S3 f3 e3 q3 => ?_)
    refine ⟨B3, r3, m3, _, _, e3, S3, q3, fun B4 v m4 H4 s4 S4 f4 q4 => ?_, fun _ _ _ _ _ _ _ z => z⟩
    have g4 := f3.trans f4
    have n2 : B2 Dl = none := f2.bout _ _ d3 d2 d1
    cases v with
    | false => exact iteF ⟨B4, m4, acc, vacc, ((a.trans s2).trans s3).trans s4, S4, c2.trans g4, g4.bout _ _ h2D d2 n2, g4.out _ _ h2D d2, g4.keep _ _ h2D d2, d4.mono ((s2.trans s3).trans s4), q4⟩
    | true =>
      refine iteT ⟨B4, r3, m4, _, _, e3.mono s4, S4, q4, fun B5 u m5 y5 H5 s5 S5 f5 p5 q5 => ?_, fun _ _ _ _ _ _ _ z => z⟩
      have g5 := g4.trans f5
      refine ⟨vacc, g5.keep _ _ h2D d2, by rw [← LIM_eq, d4.length]; exact q5.1, B5, m5, acc ++ [u], vacc ++ [y5], (((a.trans s2).trans s3).trans s4).trans s5, put S5 (g5.bout _ _ h2D d2 n2) (g5.out _ _ h2D d2), fput (c2.trans g5), g5.bout _ _ h2D d2 n2, g5.out _ _ h2D d2, upd_same, (d4.mono (((s2.trans s3).trans s4).trans s5)).append (.cons p5 .nil), q5.2⟩
  · rintro H' ⟨B', m', acc, vacc, a, b, c, d1, d2, d3, d4, q⟩
    rw [List.drop_length] at q
    obtain ⟨_, q⟩ := q
    have fk : ∀ z ho, H z = some ho → m z = none → H' z = some ho := fun z ho ez nz => c.keep z ho (f1.keep z ho ez nz) (f1.out z ho ez nz)
    have fo : ∀ z ho, H z = some ho → m z = none → m' z = none := fun z ho ez nz => c.out z ho (f1.keep z ho ez nz) (f1.out z ho ez nz)
    have fb : ∀ z ho, H z = some ho → m z = none → B z = none → B' z = none := fun z ho ez nz bz => c.bout z ho (f1.keep z ho ez nz) (f1.out z ho ez nz) (f1.bout z ho ez nz bz)
    have nD : ∀ z ho, H z = some ho → m z = none → z ≠ Dl := fun z ho ez nz => ne_of_none (f1.keep z ho ez nz) hD
    cases bb with
    | true =>
      refine th B' (.ref Dl) (sup m' Dl (.lst acc)) (.ref Dl) H' (e1.trans a) ⟨b.same, fun z mo ez => ?_⟩ ⟨fk, fun z ho ez nz => ?_, fb⟩ (.ref Dl) (q Dl d2)
      · by_cases hz : z = Dl
        · subst hz; rw [sup_same] at ez; cases ez; exact ⟨d1, _, d3, d4⟩
        · rw [sup_ne hz] at ez; exact b.obj z mo ez
      · rw [sup_ne (nD z ho ez nz)]; exact fo z ho ez nz
    | false =>
      have s9 : Same B' (upd B' Dl (.lst vacc)) := fun b o e => by rw [upd_ne (ne_of_none e d1)]; exact e
      refine th (upd B' Dl (.lst vacc)) (.lst acc) m' (.ref Dl) H' ((e1.trans a).trans s9) ⟨fun z o ez => ?_, fun z mo ez => ?_⟩ ⟨fk, fo, fun z ho ez nz bz => ?_⟩ (.lst upd_same (d4.mono s9)) q
      · by_cases hz : z = Dl
        · subst hz; rw [upd_same] at ez; cases ez; exact d3
        · rw [upd_ne hz] at ez; exact b.same _ _ ez
      · obtain ⟨z1, ho, z2, z3⟩ := b.obj z mo ez
        exact ⟨by rw [upd_ne (fun y => by subst y; rw [d2] at ez; cases ez)]; exact z1, ho, z2, z3.mono s9⟩
      · rw [upd_ne (nD z ho ez nz)]; exact fb z ho ez nz bz
end
end DL
end
section
set_option maxHeartbeats 0
namespace DL
open PySem PySem.Spec PyProof.Rows L2
def spD (K : PySem.W.Frag) (n : Nat) (f : FW) : Sp := fun vs H Q E => ∃ B ds m R x, vs.length = n ∧ DpAll K B vs ds ∧ SRp K B H m ∧ f ds m R x ∧ Thn K B H m R Q ∧ ThX K B H m x fun C H' => E (.ref C) none H'
def startD (n : Nat) (ds : List D) : Env := ds.map some ++ List.replicate (n - ds.length) none
def endD (R : KD) (x : XD) : SK := ⟨fun _ m => R .non m, R, x, fun _ _ => False, fun _ _ => False⟩
theorem start_erp {K : PySem.W.Frag} {B : Hp} {N : List Str} {vs : List V} {ds : List D} (h : DpAll K B vs ds) (hl : vs.length ≤ N.length) : ERp K B (L2.start N vs) (startD N.length ds) := by
  have e := h.length
  refine ⟨by simp [L2.start, startD, e], fun i d q => ?_⟩
  unfold startD at q
  unfold L2.start
  by_cases hi : i < ds.length
  · rw [List.getElem?_append_left (by simpa using hi), List.getElem?_map] at q
    rw [List.getElem?_append_left (by simpa [e] using hi), List.getElem?_map]
    cases z : ds[i]? with
    | none => rw [z] at q; cases q
    | some d' =>
      rw [z] at q
      simp at q
      subst q
      obtain ⟨v, h1, h2⟩ := h.get z
      exact ⟨v, by rw [h1]; rfl, h2⟩
  · rw [List.getElem?_append_right (by simpa using hi), List.getElem?_replicate] at q
    split at q <;> simp at q
section
variable {P : Program} {w : World} {K : PySem.W.Frag} {mg : Str → Option Value} {base : Heap}
abbrev cxD (P : Program) (w : World) (K : PySem.W.Frag) (mg : Str → Option Value) (base : Heap) (N : List Str) (qual : Str) (st : Stmt) (f : Addr) (cdv : Value) (A : Around) (outer : List PySem.Env) (s : Shared) (H : Hp) (E : XK) : Cx := cxOf (L2N.CX P w) P w K mg base N qual (defScope st) f cdv A outer s H E
end
end DL
namespace DL
open PySem PySem.Spec PyProof.Rows L2
section
variable {P : Program} {w : World} {K : PySem.W.Frag} {mg : Str → Option Value} {base : Heap}
abbrev WD (E : XK) : WX := fun cls d _ H => E cls d H
theorem fnD {x qual : Str} {st : Stmt} {f : Addr} {fd : FuncData} {N ps : List Str} {k : Nat} {g : FW} {b : WS} (F : Fun K x qual st f fd) (S : FnScope N ps (defScope st))
    (hd : ∀ (cdv : Value) (A : Around) (outer : List PySem.Env) (s : Shared) (H : Hp) (E : XK), Room k (A.deeper (envOfC qual (defScope st) s.heap.objs.size f cdv)) → PSs (cxD P w K mg base N qual st f cdv A outer s H E) (defBody st) (upS K (WD E) b))
    (hg : ∀ ds m R x, g ds m R x → ds.length = ps.length → b (startD N.length ds) m (endD R x)) (hN : ps.length ≤ N.length := by decide) : FnOk P w K mg base (L2N.CX P w) (k + 1) f fd ps (spD K ps.length g) := by
  obtain ⟨oc, od, kV, doc, pm, an, cdv, ct, osl, rfl, lk, hcd⟩ := F.ex
  refine fn_of lk hcd S (fun vs H Q E ⟨_, _, _, _, _, h, _⟩ => h) fun A outer s H vs Q E hr h => ?_
  obtain ⟨B, ds, m, R, x, hl, hp, hs, hf, ht, hx⟩ := h
  refine ⟨_, hd cdv A outer s H E hr, B, _, m, endD R x, start_erp hp (by rw [hl]; exact hN), hs, hg ds m R x hf (by rw [← hp.length]; exact hl), ?_⟩
  exact ⟨fun B' σ' r' m' H' a b c d q => ht B' .non m' .non H' a b c .non q, ht, fun B' σ' r' C m' H' a b c d q => hx B' C m' H' a b c q, fun _ _ _ _ _ _ _ _ _ z => z.elim, fun _ _ _ _ _ _ _ _ _ z => z.elim⟩
end
section
variable {X : Cx} {W : WX} {a b c o : Expr} {fa fb fc : WE} {pos p apos : Pos} {es : List Expr} {ga : WA} {k n : Nat} {f C : Addr} {fd : FuncData} {ps : List Str} {g : FW} {x nm : Str}
theorem sp_up {σ : L2.St} {H : Hp} {Q : VK} {B : Hp} {m : Store} {R : KD} {x : XD} {vs : List V} {ds : List D} (hl : vs.length = n) (hp : DpAll X.K B vs ds) (S : SRp X.K B H m) (h : g ds m R x) (t : Thn X.K B H m R Q) (tx : ThX X.K B H m x fun C H' => W (.ref C) none σ H') : spD X.K n g vs H Q (L2.WE W σ) := ⟨B, ds, m, R, x, hl, hp, S, h, t, tx⟩
theorem pd_call (F : FnOk X.prog X.w X.K X.mg X.base (L2N.CX X.prog X.w) k f fd ps (spD X.K n g)) (hr : Room k X.A) (tk : L2N.Takes X W) (hg : Gl X x) (hm : X.mg x = some (.ref f)) (hk : PySem.W.keepIn X.K (.ref f) = true) (hb : Binds X.K fd ps [])
    (ha : PA X (a :: es) (upA X.K W ga)) (hdb : (x == ("__debug__" : Str)) = false := by decide) (he : starEach (a :: es) X.env = (false, eval a X.env) :: starEach es X.env := by rfl) (hpl : (backTo pos (starEach es X.env)).any (·.1) = false := by rfl) :
    PE X (.Call (.Name x p) (a :: es) [] pos) (up X.K W (wCall n g ga)) := PE.imp (pe_callS F hr hg hm hk hb (fun σ => L2N.passAt tk σ) ha hdb he hpl) fun σ H Q h => by
  obtain ⟨B, ρ, m, R, x, er, S, h, t, tx⟩ := h
  refine ⟨B, ρ, m, _, x, er, S, h, fun B1 ds m1 vs H1 s1 S1 f1 p1 q1 => ?_, tx⟩
  exact sp_up (by rw [p1.length]; exact q1.1) p1 S1 q1.2 (t.step s1 f1) (tx.step s1 f1)
theorem pe_methX {C : Addr} {m : Str} {CX : CXT} {sp : Sp} {E : L2.St → XK} {ta : TE} {t : TA} {e : Expr} {pl : Sem Bool} (he : PE X o ta) (c : Cls X.K C) (hm : Meth X.K C m f) (F : FnOk X.prog X.w X.K X.mg X.base CX k f fd ps sp) (hr : Room k X.A) (hb : Binds X.K fd ps []) (hx : ∀ σ, PassesAt CX X σ (E σ)) (ha : PA X (e :: es) t)
    (hst : starEach (e :: es) X.env = (false, eval e X.env) :: starEach es X.env := by rfl) (hpl : (backTo pos (starEach es X.env)).any (·.1) = false := by rfl)
    (ht : eval (.Call (.Attribute o m apos) (e :: es) [] pos) X.env = (do
      let ov ← eval o X.env
      standAt apos.atName
      let (f, first) ← holding [ov] (getMethod ov m pl)
      callWith pos f first (backTo pos (starEach (e :: es) X.env)) (backToKw pos (keywordEach [] X.env))) := by rfl) :
    PE X (.Call (.Attribute o m apos) (e :: es) [] pos) (fun σ H Q => ta σ H fun x H1 => ∃ a dx fs, x = .ref a ∧ H1 a = some (.ins C dx fs) ∧ fs.lookup m = none ∧ t σ H1 fun vs H2 => sp (x :: vs) H2 Q (E σ)) := by
  refine ⟨fun pins s σ H Q I h => ?_⟩
  refine PySem.W.methodCall_KW (pl := pl) (thn (he.run pins s σ H _ I h) fun u s1 ⟨x, H1, I1, rx, a, dx, fs, ex, ea, l, q⟩ => ?_) ht
  subst ex
  obtain rfl : u = Value.ref a := rx
  refine getmeth_ok I1 ea c hm l ?_
  refine PySem.W.callWith_K (first := [.ref a]) (h₀ := X.base) I.ok.mod.kin hm.kp (thn (ha.run pos pins s1 σ H1 _ I1 q) fun us s2 ⟨vs, H2, I2, r, q2⟩ => ⟨I2.kIn, ?_⟩) hst hpl
  exact run_fnS (us := .ref a :: us) (vs := .ref a :: vs) F hr hb (hx σ) I2 (.cons rfl r) q2
theorem pe_methX0 {C : Addr} {m : Str} {CX : CXT} {sp : Sp} {E : L2.St → XK} {ta : TE} {pl : Sem Bool} (he : PE X o ta) (c : Cls X.K C) (hm : Meth X.K C m f) (F : FnOk X.prog X.w X.K X.mg X.base CX k f fd ps sp) (hr : Room k X.A) (hb : Binds X.K fd ps []) (hx : ∀ σ, PassesAt CX X σ (E σ))
    (ht : eval (.Call (.Attribute o m apos) [] [] pos) X.env = (do
      let ov ← eval o X.env
      standAt apos.atName
      let (f, first) ← holding [ov] (getMethod ov m pl)
      callWith pos f first (backTo pos (starEach [] X.env)) (backToKw pos (keywordEach [] X.env))) := by rfl) :
    PE X (.Call (.Attribute o m apos) [] [] pos) (fun σ H Q => ta σ H fun x H1 => ∃ a dx fs, x = .ref a ∧ H1 a = some (.ins C dx fs) ∧ fs.lookup m = none ∧ sp [x] H1 Q (E σ)) := by
  refine ⟨fun pins s σ H Q I h => ?_⟩
  refine PySem.W.methodCall_KW (pl := pl) (thn (he.run pins s σ H _ I h) fun u s1 ⟨x, H1, I1, rx, a, dx, fs, ex, ea, l, q⟩ => ?_) ht
  subst ex
  obtain rfl : u = Value.ref a := rx
  refine getmeth_ok I1 ea c hm l ?_
  exact PySem.W.callWith_K0 (first := [.ref a]) I1.kIn hm.kp (run_fnS (us := [.ref a]) (vs := [.ref a]) F hr hb (hx σ) I1 (.cons rfl .nil) q)
def lookD : List (Str × D) → Str → Option D
  | [], _ => none
  | (g, d) :: r, f => if g = f then some d else lookD r f
def putD (f : Str) (d : D) : List (Str × D) → List (Str × D)
  | [] => [(f, d)]
  | (g, x) :: r => if g = f then (g, d) :: r else (g, x) :: putD f d r
theorem FRel.look {K : PySem.W.Frag} {B : Hp} {f : Str} : ∀ {gs : List (Str × V)} {fs : List (Str × D)}, FRel K B gs fs → (lookD fs f = none → gs.lookup f = none) ∧ ∀ d, lookD fs f = some d → ∃ v, gs.lookup f = some v ∧ Dp K B v d
  | _, _, .nil => ⟨fun _ => rfl, fun d h => nomatch h⟩
  | (g, v) :: gs, (g', d) :: fs, .cons h t => by
    obtain ⟨e, p⟩ := h
    have e : g = g' := e
    subst e
    obtain ⟨i1, i2⟩ := FRel.look (f := f) t
    by_cases hf : g = f
    · subst hf
      refine ⟨fun z => ?_, fun d' z => ?_⟩
      · unfold lookD at z; rw [if_pos rfl] at z; cases z
      · unfold lookD at z; rw [if_pos rfl] at z; cases z
        exact ⟨v, by simp [List.lookup], p⟩
    · have hb : (f == g) = false := beq_eq_false_iff_ne.mpr (Ne.symm hf)
      refine ⟨fun z => ?_, fun d' z => ?_⟩
      · unfold lookD at z; rw [if_neg hf] at z; simp only [List.lookup, hb]; exact i1 z
      · unfold lookD at z; rw [if_neg hf] at z; simp only [List.lookup, hb]; exact i2 d' z
theorem FRel.put {K : PySem.W.Frag} {B : Hp} {f : Str} {v : V} {d : D} (p : Dp K B v d) : ∀ {gs : List (Str × V)} {fs : List (Str × D)}, FRel K B gs fs → FRel K B (putF f v gs) (putD f d fs)
  | _, _, .nil => .cons ⟨rfl, p⟩ .nil
  | (g, v0) :: gs, (g', d0) :: fs, .cons h t => by
    obtain ⟨e, p0⟩ := h
    have e : g = g' := e
    subst e
    unfold putF putD
    by_cases hf : g = f
    · rw [if_pos hf, if_pos hf]; exact .cons ⟨rfl, p⟩ t
    · rw [if_neg hf, if_neg hf]; exact .cons ⟨rfl, p0⟩ (FRel.put p t)
theorem FRel.length {K : PySem.W.Frag} {B : Hp} {gs : List (Str × V)} {fs : List (Str × D)} (h : FRel K B gs fs) : gs.length = fs.length := Paired.length h
def wOwn1 (C : Addr) (nm : Str) (n : Nat) (f : FW) (o : WE) (a : WA) : WE := fun r m R x => o r m (fun u m1 => match u with
  | .ref p => ∃ fs, m1 p = some (.ins C fs) ∧ lookD fs nm = none ∧ a r m1 (fun us m2 => us.length + 1 = n ∧ f (.ref p :: us) m2 R x) x
  | _ => False) x
theorem pd_meth {C : Addr} {pl : Sem Bool} {e : Expr} (he : PE X o (up X.K W fa)) (c : Cls X.K C) (hm : Meth X.K C nm f) (F : FnOk X.prog X.w X.K X.mg X.base (L2N.CX X.prog X.w) k f fd ps (spD X.K n g)) (hr : Room k X.A) (tk : L2N.Takes X W) (hb : Binds X.K fd ps []) (ha : PA X (e :: es) (upA X.K W ga))
    (hst : starEach (e :: es) X.env = (false, eval e X.env) :: starEach es X.env := by rfl) (hpl : (backTo pos (starEach es X.env)).any (·.1) = false := by rfl)
    (ht : eval (.Call (.Attribute o nm apos) (e :: es) [] pos) X.env = (do
      let ov ← eval o X.env
      standAt apos.atName
      let (f, first) ← holding [ov] (getMethod ov nm pl)
      callWith pos f first (backTo pos (starEach (e :: es) X.env)) (backToKw pos (keywordEach [] X.env))) := by rfl) :
    PE X (.Call (.Attribute o nm apos) (e :: es) [] pos) (up X.K W (wOwn1 C nm n g fa ga)) := PE.imp (pe_methX he c hm F hr hb (fun σ => L2N.passAt tk σ) ha hst hpl ht) fun σ H Q h => by
  obtain ⟨B, ρ, m, R, x, er, S, h, t, tx⟩ := h
  refine ⟨B, ρ, m, _, x, er, S, h, fun B1 d m1 u H1 s1 S1 f1 p1 q1 => ?_, tx⟩
  cases d with
  | ref q =>
    obtain ⟨fs, hq, hl, q2⟩ := q1
    have eu : u = .ref q := by cases p1; rfl
    subst eu
    obtain ⟨dx, gs, hH, rel⟩ := S1.ins hq
    refine ⟨q, dx, gs, rfl, hH, (rel.look (f := nm)).1 hl, B1, ρ, m1, _, x, er.mono s1, S1, q2, fun B2 ds m2 vs H2 s2 S2 f2 p2 q3 => ?_, tx.step s1 f1⟩
    exact sp_up (by rw [List.length_cons, p2.length]; exact q3.1) (.cons (.ref q) p2) S2 q3.2 (t.step (s1.trans s2) (f1.trans f2)) (tx.step (s1.trans s2) (f1.trans f2))
  | _ => exact q1.elim
theorem pd_meth0 {C : Addr} {pl : Sem Bool} (he : PE X o (up X.K W fa)) (c : Cls X.K C) (hm : Meth X.K C nm f) (F : FnOk X.prog X.w X.K X.mg X.base (L2N.CX X.prog X.w) k f fd ps (spD X.K 1 g)) (hr : Room k X.A) (tk : L2N.Takes X W) (hb : Binds X.K fd ps [])
    (ht : eval (.Call (.Attribute o nm apos) [] [] pos) X.env = (do
      let ov ← eval o X.env
      standAt apos.atName
      let (f, first) ← holding [ov] (getMethod ov nm pl)
      callWith pos f first (backTo pos (starEach [] X.env)) (backToKw pos (keywordEach [] X.env))) := by rfl) :
    PE X (.Call (.Attribute o nm apos) [] [] pos) (up X.K W (wOwn1 C nm 1 g fa wNil)) := PE.imp (pe_methX0 he c hm F hr hb (fun σ => L2N.passAt tk σ) ht) fun σ H Q h => by
  obtain ⟨B, ρ, m, R, x, er, S, h, t, tx⟩ := h
  refine ⟨B, ρ, m, _, x, er, S, h, fun B1 d m1 u H1 s1 S1 f1 p1 q1 => ?_, tx⟩
  cases d with
  | ref q =>
    obtain ⟨fs, hq, hl, q2⟩ := q1
    have eu : u = .ref q := by cases p1; rfl
    subst eu
    obtain ⟨dx, gs, hH, rel⟩ := S1.ins hq
    exact ⟨q, dx, gs, rfl, hH, (rel.look (f := nm)).1 hl, sp_up rfl (.cons (.ref q) .nil) S1 q2.2 (t.step s1 f1) (tx.step s1 f1)⟩
  | _ => exact q1.elim
def wFld (C : Addr) (f : Str) (a : WE) : WE := fun r m R x => a r m (fun u m1 => match u with
  | .ref p => ∃ fs d, m1 p = some (.ins C fs) ∧ lookD fs f = some d ∧ R d m1
  | _ => False) x
theorem pd_fld {C : Addr} {f : Str} (he : PE X a (up X.K W fa)) (c : Cls X.K C) (na : NoAttr X.K C f) (hb : attributeBase a f X.env (eval a X.env) = eval a X.env := by rfl) : PE X (.Attribute a f pos) (up X.K W (wFld C f fa)) := PE.imp (pe_fld he hb) fun σ H Q h => by
  obtain ⟨B, ρ, m, R, x, er, S, h, t, tx⟩ := h
  refine ⟨B, ρ, m, _, x, er, S, h, fun B1 d m1 u H1 s1 S1 f1 p1 q1 => ?_, tx⟩
  cases d with
  | ref q =>
    obtain ⟨fs, d, hq, hl, q2⟩ := q1
    have eu : u = .ref q := by cases p1; rfl
    subst eu
    obtain ⟨dx, gs, hH, rel⟩ := S1.ins hq
    obtain ⟨v, hv, pv⟩ := (rel.look (f := f)).2 d hl
    exact ⟨q, C, dx, gs, v, rfl, hH, c, na, hv, t B1 d m1 v H1 s1 S1 f1 pv q2⟩
  | _ => exact q1.elim
def wFldS (C : Addr) (f : Str) (a v : WE) : WS := fun r m k => v r m (fun y m1 => a r m1 (fun u m2 => match u with
  | .ref p => ∃ fs, m2 p = some (.ins C fs) ∧ fs.length < 1000 ∧ k.nx r (sup m2 p (.ins C (putD f y fs)))
  | _ => False) k.ex) k.ex
theorem psd_fld {C : Addr} {f : Str} {pos' : Pos} (ha : PE X o (up X.K W fa)) (hv : PE X b (up X.K W fb)) (c : Cls X.K C) (na : NoAttr X.K C f) (hs : swapsWith b (some (.Attribute o f pos')) pos.line X.env = pure false := by rfl) : PS X (.Assign [.Attribute o f pos'] b pos) (upS X.K W (wFldS C f fa fb)) := PS.imp (ps_fld ha hv hs) fun E σ H ⟨B, r, m, k, er, S, h, t⟩ => by
  refine ⟨B, r, m, _, _, er, S, h, fun B1 d m1 u H1 s1 S1 f1 p1 q1 => ?_, t.x er⟩
  refine ⟨B1, r, m1, _, _, er.mono s1, S1, q1, fun B2 e m2 v H2 s2 S2 f2 p2 q2 => ?_, (t.x er).step s1 f1⟩
  cases e with
  | ref q =>
    obtain ⟨fs, hq, hl, q3⟩ := q2
    have eu : v = .ref q := by cases p2; rfl
    subst eu
    obtain ⟨dx, gs, hH, rel⟩ := S2.ins hq
    obtain ⟨S3, f3⟩ := S2.put (ho := .ins C dx (putF f u gs)) (mo := .ins C (putD f d fs)) hq ⟨rfl, rel.put (p1.mono s2)⟩
    exact ⟨q, C, dx, gs, rfl, hH, c, na, by rw [rel.length]; exact hl, t.nx B2 σ r _ _ (s1.trans s2) S3 ((f1.trans f2).trans f3) (er.mono (s1.trans s2)) q3⟩
  | _ => exact q2.elim
def wMake (C : Addr) (n : Nat) (f : FW) (a : WA) : WE := fun r m R x => a r m (fun us m1 => us.length + 1 = n ∧ ∀ p, m1 p = none → f (.ref p :: us) (sup m1 p (.ins C [])) (fun d m2 => d = .non ∧ R (.ref p) m2) x) x
theorem SRp.free {K : PySem.W.Frag} {B H : Hp} {m : Store} {p : Addr} {ho : HO} (h : SRp K B H m) (n : H p = none) : SRp K B (upd H p ho) m ∧ Frm B H m B (upd H p ho) m := by
  refine ⟨⟨fun b o e => by rw [upd_ne (ne_of_none (h.same _ _ e) n)]; exact h.same _ _ e, fun a mo e => ?_⟩, fun a o e _ => by rw [upd_ne (ne_of_none e n)]; exact e, fun _ _ _ z => z, fun _ _ _ _ z => z⟩
  obtain ⟨b1, ho', e1, r1⟩ := h.obj a mo e
  exact ⟨b1, ho', by rw [upd_ne (ne_of_none e1 n)]; exact e1, r1⟩
theorem run_makeX {CX : CXT} {sp : Sp} {E : L2.St → XK} {pins : List (Addr × Obj)} {σ : L2.St} {H : Hp} {s : Shared} {Q : VK} {us : List Value} {vs : List V} (M : Mk X.K C f) (F : FnOk X.prog X.w X.K X.mg X.base CX k f fd ps sp) (hr : Room (k + 1) X.A) (hb : Binds X.K fd ps [])
    (hx : PassesAt CX X σ (E σ)) (I : Inv X pins σ H s) (r : Vals vs us)
    (h : ∀ x dx, H x = none → H dx = none → dx ≠ x → sp (.ref x :: vs) (upd (upd H dx (.own x)) x (.ins C dx [])) (fun v H2 => v = .non ∧ Q (.ref x) H2) (E σ)) :
    wpAny (model X.prog X.w) X.A (call (.ref C) us) (EP X pins σ Q) X.xe s := by
  have hq := h (s.heap.objs.size + 1) s.heap.objs.size (I.hok.fresh (Nat.le_succ _)) (I.hok.fresh (Nat.le_refl _)) (Nat.ne_of_lt (Nat.lt_succ_self _))
  have I2 := Inv.made (C := C) I
  have r2 : Vals (V.ref (s.heap.objs.size + 1) :: vs) (Value.ref (s.heap.objs.size + 1) :: us) := .cons rfl r
  have hl : (Value.ref (s.heap.objs.size + 1) :: us).length = ps.length := by
    have e := r2.length
    rw [F.len _ _ _ _ hq] at e
    exact e.symm
  have bb := hb _ (Value.ref (s.heap.objs.size + 1) :: us) I2.kIn (by rw [List.append_nil]; exact hl)
  rw [List.append_nil] at bb
  refine wpAny_call (make_map (f := f) I.kIn M.makes M.init (beq_iff_eq.mp M.fn) (codeAny_mono (F.run _ X.stack _ _ ⟨Value.ref (s.heap.objs.size + 1) :: us, []⟩ (Value.ref (s.heap.objs.size + 1) :: us) _ _ (E σ) (hr.make C us [])
    (I2.env0.make C us []) bb r2 hq) fun r s' hq' => ?_))
  cases r with
  | error e => exact hx pins _ _ e s' I2 hq'
  | ok fl =>
    cases fl with
    | ret u =>
      obtain ⟨v, H', I3, rv, ev, q3⟩ := I2.after hq'
      subst ev
      exact ⟨rv, ⟨V.ref (s.heap.objs.size + 1), H', I3, rfl, q3⟩⟩
    | next => exact False.elim hq'
    | brk => exact False.elim hq'
    | cont => exact False.elim hq'
theorem pd_make {C : Addr} {e : Expr} (M : Mk X.K C f) (F : FnOk X.prog X.w X.K X.mg X.base (L2N.CX X.prog X.w) k f fd ps (spD X.K n g)) (hr : Room (k + 1) X.A) (tk : L2N.Takes X W) (hg : Gl X x) (hm : X.mg x = some (.ref C)) (hb : Binds X.K fd ps [])
    (ha : PA X (e :: es) (upA X.K W ga)) (hdb : (x == ("__debug__" : Str)) = false := by decide) (he : starEach (e :: es) X.env = (false, eval e X.env) :: starEach es X.env := by rfl) (hpl : (backTo pos (starEach es X.env)).any (·.1) = false := by rfl) :
    PE X (.Call (.Name x p) (e :: es) [] pos) (up X.K W (wMake C n g ga)) := by
  refine ⟨fun pins s σ H Q I h => ?_⟩
  obtain ⟨B, ρ, m, R, y, er, S, h, t, tx⟩ := h
  refine wpAny_Call_Name_kw (ld_glob I hg hm ?_ hdb)
  refine PySem.W.callWith_K (h₀ := X.base) I.ok.mod.kin M.kp (thn (ha.run pos pins s σ H (fun vs H1 => ∃ B1 ds m1, Same B B1 ∧ SRp X.K B1 H1 m1 ∧ Frm B H m B1 H1 m1 ∧ DpAll X.K B1 vs ds ∧ ds.length + 1 = n ∧ ∀ p, m1 p = none → g (.ref p :: ds) (sup m1 p (.ins C [])) (fun d m2 => d = .non ∧ R (.ref p) m2) y) I
    ⟨B, ρ, m, _, y, er, S, h, fun B1 ds m1 vs H1 s1 S1 f1 p1 q1 => ⟨B1, ds, m1, s1, S1, f1, p1, q1.1, q1.2⟩, tx⟩) fun us s1 ⟨vs, H1, I1, r, q⟩ => ⟨I1.kIn, ?_⟩) he hpl
  obtain ⟨B1, ds, m1, sm, S1, f1, p1, hl, q⟩ := q
  refine run_makeX (E := L2.WE W) M F hr hb (L2N.passAt tk σ) I1 r fun z dx nz nd ne => ?_
  obtain ⟨S2, f2⟩ := S1.free (ho := .own z) nd
  have nz2 : (upd H1 dx (.own z)) z = none := by rw [upd_ne (Ne.symm ne)]; exact nz
  obtain ⟨mz, S3, f3⟩ := S2.new (ho := .ins C dx []) (mo := .ins C []) nz2 ⟨rfl, .nil⟩
  have f13 := (f1.trans f2).trans f3
  refine sp_up (by rw [List.length_cons, p1.length]; exact hl) (.cons (.ref z) p1) S3 (q z mz) (fun B' d m' v H' a b c p q => ?_) (tx.step sm f13)
  obtain ⟨e1, q⟩ := q
  subst e1
  cases p
  exact ⟨rfl, t B' (.ref z) m' (.ref z) H' (sm.trans a) b (f13.trans c) (.ref z) q⟩
end
end DL
end
section
set_option maxHeartbeats 0
namespace DL
open PySem PySem.Spec PyProof.Rows L2
section
variable {X : Cx} {K : PySem.W.Frag} {B H : Hp} {m : Store}
theorem seqL {v : V} {d : D} {ds : List D} (S : SRp K B H m) (p : Dp K B v d) (h : asL m d = some ds) : ∃ a vs, v = .ref a ∧ H a = some (.lst vs) ∧ DpAll K B vs ds := by
  cases p with
  | lst h1 h2 => cases h; exact ⟨_, _, rfl, S.same _ _ h1, h2⟩
  | ref a =>
    simp only [asL] at h
    cases q : m a with
    | none => rw [q] at h; cases h
    | some o => rw [q] at h; cases o with
      | lst xs => cases h; obtain ⟨vs, e, r⟩ := S.list q; exact ⟨a, vs, rfl, e, r⟩
      | _ => cases h
  | _ => cases h
theorem scr_dp : ∀ (ns : List Int), DpAll K B (ns.map V.int) (ns.map .int)
  | [] => .nil
  | n :: ns => .cons (.int n) (scr_dp ns)
theorem seqQ {v : V} {d : D} {ds : List D} (S : SRp K B H m) (p : Dp K B v d) (h : asQ m d = some ds) : ∃ a vs, v = .ref a ∧ (SqL K H a vs ∨ SqT K H a vs) ∧ DpAll K B vs ds := by
  cases d with
  | tup xs => cases h; cases p with | tup h1 h2 => exact ⟨_, _, rfl, .inr (sqT_mono S.same h1), h2⟩
  | scr ns => cases h; cases p with | scr h1 => exact ⟨_, _, rfl, .inl (S.same.seq h1), scr_dp ns⟩
  | lst xs => obtain ⟨a, vs, e, h1, h2⟩ := seqL S p h; exact ⟨a, vs, e, .inl (.inl (.inl h1)), h2⟩
  | ref a => obtain ⟨a, vs, e, h1, h2⟩ := seqL S p h; exact ⟨a, vs, e, .inl (.inl (.inl h1)), h2⟩
  | _ => cases h
theorem ixL_eq : @ixL = @ixN := rfl
theorem atL_eq {α : Type} (xs : List α) (i : Int) : atL xs i = atI xs i := rfl
theorem atL_get {vs : List V} {ds : List D} {i : Int} {d : D} (p : DpAll K B vs ds) (h : atL ds i = some d) : ∃ v, atI vs i = some v ∧ Dp K B v d := by
  unfold atL at h
  unfold atI
  rw [← ixL_eq, p.length]
  cases q : ixL ds.length i with
  | none => rw [q] at h; cases h
  | some j => rw [q] at h; exact p.get h
theorem sIxD_eq (n d : Nat) : ∀ o, sIxD n d o = HT.sIx n d o
  | none => rfl
  | some i => rfl
theorem cutL_v (xs : List V) (lo hi : Option Int) : cutV xs lo hi = cutL xs lo hi := by unfold cutV cutL; rw [sIxD_eq, sIxD_eq]
theorem DpAll.cut {vs : List V} {ds : List D} (p : DpAll K B vs ds) (lo hi : Option Int) : DpAll K B (cutL vs lo hi) (cutL ds lo hi) := by
  unfold cutL
  rw [p.length]
  exact (p.drop _).take _
theorem DpAll.rep {vs : List V} {ds : List D} (p : DpAll K B vs ds) : ∀ k, DpAll K B (List.replicate k vs).flatten (repD k ds)
  | 0 => .nil
  | k + 1 => by unfold repD; rw [List.replicate_succ, List.flatten_cons, List.replicate_succ, List.flatten_cons]; exact p.append (DpAll.rep p k)
theorem add_ {b : Bool} : OpD X (binaryOp .Add) (wAdd b) := by
  refine ⟨_, (op_add.or op_add_str).or (op_catA.or op_cat), fun B u v d e p q H m R Q S h t => ?_⟩
  cases p with
  | int i => cases q with
    | int j => exact .inl (.inl ⟨i, j, rfl, rfl, eff_ret S t (.int _) h⟩)
    | _ => obtain ⟨xs, ys, h1, _⟩ := h; cases h1
  | str s => cases q with
    | str s2 => exact .inl (.inr ⟨s, s2, rfl, rfl, by rw [← LIM_eq]; exact h.1, eff_ret S t (.str _) h.2⟩)
    | _ => obtain ⟨xs, ys, h1, _⟩ := h; cases h1
  | tup h1 h2 => cases q with
    | tup h3 h4 =>
      refine .inr (.inl ⟨_, _, _, _, rfl, rfl, sqT_mono S.same h1, sqT_mono S.same h3, by rw [← LIM_eq, h2.length, h4.length]; exact h.1, fun z => ?_, fun z1 z2 => ?_, fun z1 z2 => eff_tup S t (h2.append h4) h.2⟩)
      · subst z; cases h2; exact eff_ret S t (.tup h3 h4) h.2
      · subst z2; cases h4
        have h' := h.2
        rw [List.append_nil] at h'
        exact eff_ret S t (.tup h1 h2) h'
    | _ => obtain ⟨xs, ys, h1, _⟩ := h; cases h1
  | lst h1 h2 =>
    obtain ⟨xs, ys, g1, g2, g3, g4⟩ : ∃ xs ys, asL m (.lst _) = some xs ∧ asL m e = some ys ∧ xs.length + ys.length ≤ LIM ∧ wNw b (xs ++ ys) m R := by cases q <;> exact h
    obtain ⟨a, vs, ea, ha, pa⟩ := seqL S (.lst h1 h2) g1
    obtain ⟨b', ws, eb, hb, pb⟩ := seqL S q g2
    exact .inr (.inr ⟨a, b', vs, ws, ea, eb, ha, hb, by rw [← LIM_eq, pa.length, pb.length]; exact g3, eff_nw S t (pa.append pb) g4⟩)
  | ref a0 =>
    obtain ⟨xs, ys, g1, g2, g3, g4⟩ : ∃ xs ys, asL m (.ref a0) = some xs ∧ asL m e = some ys ∧ xs.length + ys.length ≤ LIM ∧ wNw b (xs ++ ys) m R := by cases q <;> exact h
    obtain ⟨a, vs, ea, ha, pa⟩ := seqL S (.ref a0) g1
    obtain ⟨b', ws, eb, hb, pb⟩ := seqL S q g2
    exact .inr (.inr ⟨a, b', vs, ws, ea, eb, ha, hb, by rw [← LIM_eq, pa.length, pb.length]; exact g3, eff_nw S t (pa.append pb) g4⟩)
  | _ => exfalso; cases q <;> (obtain ⟨xs, ys, h1, _⟩ := h; cases h1)
theorem sub_ : OpD X (binaryOp .Sub) wSub := by
  refine ⟨_, op_sub, fun B u v d e p q H m R Q S h t => ?_⟩
  cases p with
  | int i => cases q with
    | int j => exact ⟨i, j, rfl, rfl, eff_ret S t (.int _) h⟩
    | _ => exact h.elim
  | _ => exfalso; cases q <;> exact h
theorem mod_ : OpD X (binaryOp .Mod) wMod := by
  refine ⟨_, op_mod, fun B u v d e p q H m R Q S h t => ?_⟩
  cases p with
  | int i => cases q with
    | int j => exact ⟨i, j, rfl, rfl, h.1, eff_ret S t (.int _) h.2⟩
    | _ => exact h.elim
  | _ => exfalso; cases q <;> exact h
theorem div_ : OpD X (binaryOp .FloorDiv) wDiv := by
  refine ⟨_, op_fdiv, fun B u v d e p q H m R Q S h t => ?_⟩
  cases p with
  | int i => cases q with
    | int j => exact ⟨i, j, rfl, rfl, h.1, eff_ret S t (.int _) h.2⟩
    | _ => exact h.elim
  | _ => exfalso; cases q <;> exact h
theorem pow_ : OpD X (binaryOp .Pow) wPow := by
  refine ⟨_, op_pow, fun B u v d e p q H m R Q S h t => ?_⟩
  cases p with
  | int i => cases q with
    | int j => exact ⟨i, j, rfl, rfl, h.1, eff_ret S t (.int _) h.2⟩
    | _ => exact h.elim
  | _ => exfalso; cases q <;> exact h
theorem foldl_app {α : Type} : ∀ (n : Nat) (xs acc : List α), (List.replicate n xs.toArray).foldl (· ++ ·) acc.toArray = (acc ++ (List.replicate n xs).flatten).toArray
  | 0, xs, acc => by simp
  | n + 1, xs, acc => by
    rw [List.replicate_succ, List.foldl_cons, List.append_toArray, foldl_app n xs (acc ++ xs), List.replicate_succ, List.flatten_cons, List.append_assoc]
theorem txt_mul (s : Str) (k : Int) : Txt.mul s k = ⟨(List.replicate k.toNat s.cps.toList).flatten.toArray⟩ := by
  unfold Txt.mul
  by_cases h1 : k < 1
  · rw [if_pos h1]
    have e : k.toNat = 0 := by omega
    rw [e]; rfl
  · rw [if_neg h1]
    by_cases h2 : (k == 1 || s.length == 0) = true
    · rw [if_pos h2]
      obtain ⟨⟨l⟩⟩ := s
      rcases (Bool.or_eq_true _ _).mp h2 with z | z
      · have e : k = 1 := by simpa using z
        subst e
        show _ = (⟨([l].flatten).toArray⟩ : Str)
        simp
      · have e : l = [] := by
          have : l.toArray.size = 0 := by simpa [PySem.Str.length] using z
          simpa using this
        subst e
        have : ∀ n, (List.replicate n ([] : List Nat)).flatten = [] := fun n => by induction n with
          | zero => rfl
          | succ n ih => rw [List.replicate_succ, List.flatten_cons, ih]; rfl
        simp
    · rw [if_neg h2]
      obtain ⟨⟨l⟩⟩ := s
      have := foldl_app k.toNat l []
      rw [List.nil_append] at this
      exact congrArg _ this
def rMulS : R2 := fun x y H Q => ∃ s k, x = .str s ∧ y = .int k ∧ (s.length ≤ 16 ∧ -(2 ^ 63) ≤ k ∧ k ≤ 1048576) ∧ Q (.str ⟨(List.replicate k.toNat s.cps.toList).flatten.toArray⟩) H
theorem op_mulS : OpR X (binaryOp .Mult) rMulS := by
  intro pins s σ H x y v u Q I rx ry h
  obtain ⟨z, k, rfl, rfl, ⟨h1, h2, h3⟩, q⟩ := h
  obtain ⟨t, rfl⟩ := rx
  obtain ⟨t2, rfl⟩ := ry
  refine PySem.W.KXi.mul rfl h1 h2 h3 fun t' k' _ _ => ?_
  rw [txt_mul]
  exact ⟨.str _, H, I.kept (t' := k') fun _ _ z => z, ⟨_, rfl⟩, q⟩
theorem mul_ {b : Bool} : OpD X (binaryOp .Mult) (wMul b) := by
  refine ⟨_, (op_mul.or op_rep).or op_mulS, fun B u v d e p q H m R Q S h t => ?_⟩
  cases p with
  | int i => cases q with
    | int j => exact .inl (.inl ⟨i, j, rfl, rfl, h.1, eff_ret S t (.int _) h.2⟩)
    | _ => exact h.elim
  | str i => cases q with
    | int j => exact .inr ⟨i, j, rfl, rfl, h.1, eff_ret S t (.str _) h.2⟩
    | _ => exact h.elim
  | lst h1 h2 => cases q with
    | int k =>
      obtain ⟨xs, g1, g2, g3, g4, g5⟩ := h
      obtain ⟨a, vs, ea, ha, pa⟩ := seqL S (.lst h1 h2) g1
      exact .inl (.inr ⟨a, k, vs, ea, rfl, ha, g2, g3, by rw [← LIM_eq, pa.length]; exact g4, eff_nw S t (pa.rep _) g5⟩)
    | _ => exact h.elim
  | ref a0 => cases q with
    | int k =>
      obtain ⟨xs, g1, g2, g3, g4, g5⟩ := h
      obtain ⟨a, vs, ea, ha, pa⟩ := seqL S (.ref a0) g1
      exact .inl (.inr ⟨a, k, vs, ea, rfl, ha, g2, g3, by rw [← LIM_eq, pa.length]; exact g4, eff_nw S t (pa.rep _) g5⟩)
    | _ => exact h.elim
  | _ => exfalso; cases q with
    | int k => obtain ⟨xs, g1, _⟩ := h; cases g1
    | _ => exact h
theorem neg_ : UnD X (unaryOp .USub) wNeg := by
  refine ⟨_, un_neg, fun B u d p H m R Q S h t => ?_⟩
  cases p with
  | int i => exact ⟨i, rfl, eff_ret S t (.int _) h⟩
  | _ => exact h.elim
theorem le_ : OpD X (compareOp .LtE) wLe := by
  refine ⟨_, op_le.or op_le_str, fun B u v d e p q H m R Q S h t => ?_⟩
  cases p with
  | int i => cases q with
    | int j => exact .inl ⟨i, j, rfl, rfl, eff_ret S t (.bl _) h⟩
    | _ => exact h.elim
  | str i => cases q with
    | str j => exact .inr ⟨i, j, rfl, rfl, eff_ret S t (.bl _) h⟩
    | _ => exact h.elim
  | _ => exfalso; cases q <;> exact h
theorem gt_ : OpD X (compareOp .Gt) wGt := by
  refine ⟨_, op_gt.or op_gt_str, fun B u v d e p q H m R Q S h t => ?_⟩
  cases p with
  | int i => cases q with
    | int j => exact .inl ⟨i, j, rfl, rfl, eff_ret S t (.bl _) h⟩
    | _ => exact h.elim
  | str i => cases q with
    | str j => exact .inr ⟨i, j, rfl, rfl, eff_ret S t (.bl _) h⟩
    | _ => exact h.elim
  | _ => exfalso; cases q <;> exact h
theorem ge_ : OpD X (compareOp .GtE) wGe := by
  refine ⟨_, op_ge.or op_ge_str, fun B u v d e p q H m R Q S h t => ?_⟩
  cases p with
  | int i => cases q with
    | int j => exact .inl ⟨i, j, rfl, rfl, eff_ret S t (.bl _) h⟩
    | _ => exact h.elim
  | str i => cases q with
    | str j => exact .inr ⟨i, j, rfl, rfl, eff_ret S t (.bl _) h⟩
    | _ => exact h.elim
  | _ => exfalso; cases q <;> exact h
theorem lt_ : OpD X (compareOp .Lt) wLt := by
  refine ⟨_, op_lt.or op_lt_str, fun B u v d e p q H m R Q S h t => ?_⟩
  cases p with
  | int i => cases q with
    | int j => exact .inl ⟨i, j, rfl, rfl, eff_ret S t (.bl _) h⟩
    | _ => exact h.elim
  | str i => cases q with
    | str j => exact .inr ⟨i, j, rfl, rfl, eff_ret S t (.bl _) h⟩
    | _ => exact h.elim
  | _ => exfalso; cases q <;> exact h
mutual
def toPy : D → PyData
  | .non => .none
  | .bl b => .bool b
  | .int i => .int i
  | .str s => .str s
  | .tup xs => .tuple (toPys xs)
  | .lst xs => .list (toPys xs)
  | _ => .none
def toPys : List D → List PyData
  | [] => []
  | x :: xs => toPy x :: toPys xs
end
mutual
theorem toPy_eq : ∀ (d e : D) (n k : Nat), dOk d n = true → dOk e k = true → PyData.eqv (toPy d) (toPy e) = eqD d e
  | .non, e, n, k, hd, he => by cases e <;> simp [toPy, PyData.eqv, eqD, dOk] at *
  | .bl b, e, n, k, hd, he => by cases e <;> simp [toPy, PyData.eqv, eqD, dOk] at * <;> rfl
  | .int i, e, n, k, hd, he => by cases e <;> simp [toPy, PyData.eqv, eqD, dOk] at * <;> rfl
  | .str s, e, n, k, hd, he => by cases e <;> simp [toPy, PyData.eqv, eqD, dOk] at * <;> rfl
  | .tup xs, e, n, k, hd, he => by
    cases e with
    | tup ys =>
      cases n with
      | zero => simp [dOk] at hd
      | succ n => cases k with
        | zero => simp [dOk] at he
        | succ k =>
          rw [toPy, toPy, PyData.eqv, eqD]
          exact toPys_eq xs ys n k (by simpa [dOk] using hd) (by simpa [dOk] using he)
    | _ => simp [toPy, PyData.eqv, eqD, dOk] at *
  | .lst xs, e, n, k, hd, he => by
    cases e with
    | lst ys =>
      cases n with
      | zero => simp [dOk] at hd
      | succ n => cases k with
        | zero => simp [dOk] at he
        | succ k =>
          rw [toPy, toPy, PyData.eqv, eqD]
          exact toPys_eq xs ys n k (by simpa [dOk] using hd) (by simpa [dOk] using he)
    | _ => simp [toPy, PyData.eqv, eqD, dOk] at *
  | .ref a, e, n, k, hd, he => by simp [dOk] at hd
  | .scr a, e, n, k, hd, he => by simp [dOk] at hd
  | .ty a, e, n, k, hd, he => by simp [dOk] at hd
theorem toPys_eq : ∀ (xs ys : List D) (n k : Nat), dOks xs n = true → dOks ys k = true → PyData.eqvAll (toPys xs) (toPys ys) = eqDs xs ys
  | [], [], _, _, _, _ => rfl
  | [], _ :: _, _, _, _, _ => rfl
  | _ :: _, [], _, _, _, _ => rfl
  | x :: xs, y :: ys, n, k, hx, hy => by
    have h1 : dOk x n = true ∧ dOks xs n = true := by simpa [dOks] using hx
    have h2 : dOk y k = true ∧ dOks ys k = true := by simpa [dOks] using hy
    rw [toPys, toPys, PyData.eqvAll, eqDs, toPy_eq x y n k h1.1 h2.1, toPys_eq xs ys n k h1.2 h2.2]
end
mutual
theorem toPy_lay : ∀ (d : D) (n : Nat), dOk d n = true → (toPy d).canLay0 = true ∧ (toPy d).depth ≤ n
  | .non, n, h => ⟨by simp [toPy, PyData.canLay0], by simp [toPy, PyData.depth]⟩
  | .bl b, n, h => ⟨by simp [toPy, PyData.canLay0], by simp [toPy, PyData.depth]⟩
  | .int i, n, h => ⟨by simp [toPy, PyData.canLay0], by simp [toPy, PyData.depth]⟩
  | .str s, n, h => ⟨by simpa [toPy, PyData.canLay0, PyData.strOk, dOk, okS] using h, by simp [toPy, PyData.depth]⟩
  | .tup xs, 0, h => by simp [dOk] at h
  | .lst xs, 0, h => by simp [dOk] at h
  | .tup xs, n + 1, h => by
    obtain ⟨h1, h2⟩ := toPys_lay xs n (by simpa [dOk] using h)
    exact ⟨by rw [toPy, PyData.canLay0]; exact h1, by rw [toPy, PyData.depth]; omega⟩
  | .lst xs, n + 1, h => by
    obtain ⟨h1, h2⟩ := toPys_lay xs n (by simpa [dOk] using h)
    exact ⟨by rw [toPy, PyData.canLay0]; exact h1, by rw [toPy, PyData.depth]; omega⟩
  | .ref a, n, h => by simp [dOk] at h
  | .scr a, n, h => by simp [dOk] at h
  | .ty a, n, h => by simp [dOk] at h
theorem toPys_lay : ∀ (xs : List D) (n : Nat), dOks xs n = true → PyData.canLayAll0 (toPys xs) = true ∧ PyData.depthAll (toPys xs) ≤ n
  | [], n, _ => ⟨rfl, by simp [toPys, PyData.depthAll]⟩
  | x :: xs, n, h => by
    have h1 : dOk x n = true ∧ dOks xs n = true := by simpa [dOks] using h
    obtain ⟨a1, a2⟩ := toPy_lay x n h1.1
    obtain ⟨b1, b2⟩ := toPys_lay xs n h1.2
    exact ⟨by rw [toPys, PyData.canLayAll0, a1, b1]; rfl, by rw [toPys, PyData.depthAll]; omega⟩
end
theorem toPy_shaped {d : D} {n : Nat} (h : dOk d n = true) (hn : n ≤ 64) : SeqAt.shaped (toPy d) = true := by
  obtain ⟨h1, h2⟩ := toPy_lay d n h
  unfold SeqAt.shaped
  rw [h1, decide_eq_true (by omega)]; rfl
mutual
theorem toPy_dp : ∀ {v : V} {d : D} {n : Nat}, Same B H → Dp K B v d → dOk d n = true → L2.Dp K H v (toPy d)
  | _, _, _, s, .non, _ => .non
  | _, _, _, s, .bl b, _ => .bl b
  | _, _, _, s, .int i, _ => .int i
  | _, _, _, s, .str x, _ => .str x
  | _, _, 0, s, .tup h hs, o => by simp [dOk] at o
  | _, _, 0, s, .lst h hs, o => by simp [dOk] at o
  | _, _, n + 1, s, .tup h hs, o => .tup (sqT_mono s h) (toPys_dp s hs (by simpa [dOk] using o))
  | _, _, n + 1, s, .lst h hs, o => .lst (.inl (.inl (s _ _ h))) (toPys_dp s hs (by simpa [dOk] using o))
  | _, _, _, s, .ref a, o => by simp [dOk] at o
  | _, _, _, s, .scr a, o => by simp [dOk] at o
  | _, _, _, s, .ty a, o => by simp [dOk] at o
theorem toPys_dp : ∀ {vs : List V} {ds : List D} {n : Nat}, Same B H → DpAll K B vs ds → dOks ds n = true → L2.DpAll K H vs (toPys ds)
  | _, _, _, _, .nil, _ => .nil
  | _, _, n, s, .cons h hs, o => by
    rename_i v vs d ds
    have h1 : dOk d n = true ∧ dOks ds n = true := by simpa [dOks] using o
    exact .cons (toPy_dp s h h1.1) (toPys_dp s hs h1.2)
end
theorem rv_dp {v : V} {d : D} {n : Nat} (S : SRp K B H m) (p : Dp K B v d) (o : dOk (rv m d) n = true) : L2.Dp K H v (toPy (rv m d)) := by
  cases d with
  | ref a =>
    simp only [rv] at o ⊢
    cases q : m a with
    | none => rw [q] at o; simp [dOk] at o
    | some mo => cases mo with
      | lst xs =>
        rw [q] at o
        simp only at o ⊢
        obtain ⟨vs, e, r⟩ := S.list q
        have ev : v = .ref a := by cases p; rfl
        subst ev
        cases n with
        | zero => simp [dOk] at o
        | succ n => exact .lst (.inl (.inl e)) (toPys_dp S.same r (by simpa [dOk] using o))
      | _ => rw [q] at o; simp [dOk] at o
  | _ => exact toPy_dp S.same p o
theorem eq_ (hu : X.A.units + 64 < cLine) : OpD X (compareOp .Eq) wEq := by
  refine ⟨_, op_eq.or (op_eqD hu), fun B u v d e p q H m R Q S h t => ?_⟩
  have deep : dOk (rv m d) 60 = true ∧ dOk (rv m e) 60 = true ∧ R (.bl (eqD (rv m d) (rv m e))) m → rEqD X.K u v H Q := fun ⟨h1, h2, h3⟩ => by
    refine ⟨_, _, rv_dp S p h1, rv_dp S q h2, toPy_shaped h1 (by decide), toPy_shaped h2 (by decide), ?_⟩
    rw [toPy_eq _ _ _ _ h1 h2]
    exact eff_ret S t (.bl _) h3
  cases p with
  | str s => cases q with
    | str s2 =>
      refine .inl ⟨rfl, ?_⟩
      have e : decide (V.str s = V.str s2) = decide (s = s2) := by by_cases z : s = s2 <;> simp [z]
      rw [e]; exact eff_ret S t (.bl _) h
    | _ => exact .inr (deep h)
  | int i => cases q with
    | int j =>
      refine .inl ⟨rfl, ?_⟩
      have e : decide (V.int i = V.int j) = decide (i = j) := by by_cases z : i = j <;> simp [z]
      rw [e]; exact eff_ret S t (.bl _) h
    | _ => exact .inr (deep h)
  | _ => cases q <;> exact .inr (deep h)
theorem scr_L2 : ∀ (ns : List Int), L2.DpAll K H (ns.map V.int) (ns.map PyData.int)
  | [] => .nil
  | n :: ns => .cons (.int n) (scr_L2 ns)
theorem scr_sh (ns : List Int) : SeqAt.shaped (PyData.list (ns.map PyData.int)) = true := by
  have h1 : ∀ ns : List Int, PyData.canLayAll0 (ns.map PyData.int) = true := fun ns => by induction ns with
    | nil => rfl
    | cons n ns ih => simp [PyData.canLayAll0, PyData.canLay0, ih]
  have h2 : ∀ ns : List Int, PyData.depthAll (ns.map PyData.int) ≤ 0 := fun ns => by induction ns with
    | nil => simp [PyData.depthAll]
    | cons n ns ih => simp [PyData.depthAll, PyData.depth]; simpa using ih
  unfold SeqAt.shaped
  rw [Bool.and_eq_true]
  refine ⟨by simp [PyData.canLay0, h1], decide_eq_true ?_⟩
  have := h2 ns
  simp only [PyData.depth]
  omega
theorem eqS_ (hu : X.A.units + 64 < cLine) : OpD X (compareOp .Eq) wEqS := by
  refine ⟨_, op_eqD hu, fun B u v d e p q H m R Q S h t => ?_⟩
  match d, e, h with
  | .scr ns, .lst [], h =>
    cases p with
    | scr hs => cases q with
      | lst h1 h2 =>
        cases h2
        refine ⟨.list (ns.map PyData.int), .list [], .lst (S.same.seq hs) (scr_L2 ns), .lst (.inl (.inl (S.same _ _ h1))) .nil, scr_sh ns, by rfl, ?_⟩
        have e : PyData.eqv (.list (ns.map PyData.int)) (.list []) = ns.isEmpty := by
          cases ns <;> simp [PyData.eqv, PyData.eqvAll]
        rw [e]
        exact eff_ret S t (.bl _) h
theorem ne_ (hu : X.A.units + 64 < cLine) : OpD X (compareOp .NotEq) wNe := by
  refine ⟨_, op_ne.or (op_neD hu), fun B u v d e p q H m R Q S h t => ?_⟩
  have deep : dOk (rv m d) 60 = true ∧ dOk (rv m e) 60 = true ∧ R (.bl (!eqD (rv m d) (rv m e))) m → rNeD X.K u v H Q := fun ⟨h1, h2, h3⟩ => by
    refine ⟨_, _, rv_dp S p h1, rv_dp S q h2, toPy_shaped h1 (by decide), toPy_shaped h2 (by decide), ?_⟩
    rw [toPy_eq _ _ _ _ h1 h2]
    exact eff_ret S t (.bl _) h3
  cases p with
  | str s => cases q with
    | str s2 =>
      refine .inl ⟨rfl, ?_⟩
      have e : decide (V.str s = V.str s2) = decide (s = s2) := by by_cases z : s = s2 <;> simp [z]
      rw [e]; exact eff_ret S t (.bl _) h
    | _ => exact .inr (deep h)
  | int i => cases q with
    | int j =>
      refine .inl ⟨rfl, ?_⟩
      have e : decide (V.int i = V.int j) = decide (i = j) := by by_cases z : i = j <;> simp [z]
      rw [e]; exact eff_ret S t (.bl _) h
    | _ => exact .inr (deep h)
  | _ => cases q <;> exact .inr (deep h)
theorem eqV_D {v u : V} {d e : D} (p : Dp K B v d) (q : Dp K B u e) (f : flatD d = true) (g : flatD e = true) : eqV v u = eqD d e := by
  cases p <;> cases q <;> simp [flatD, eqV, eqD] at * <;> rfl
theorem flat_D {v : V} {d : D} (p : Dp K B v d) (f : flatD d = true) : flatV v = true := by
  cases p <;> first | rfl | cases f
theorem flats_D : ∀ {vs : List V} {ds : List D}, DpAll K B vs ds → ds.all flatD = true → vs.all flatV = true
  | _, _, .nil, _ => rfl
  | _, _, .cons h t, f => by
    rw [List.all_cons] at f ⊢
    have f' := Bool.and_eq_true_iff.mp f
    rw [flat_D h f'.1, flats_D t f'.2]; rfl
theorem inV_D {x : V} {d : D} (p : Dp K B x d) (f : flatD d = true) : ∀ {vs : List V} {ds : List D}, DpAll K B vs ds → ds.all flatD = true → inV x vs = inD d ds
  | _, _, .nil, _ => rfl
  | _, _, .cons h t, g => by
    rw [List.all_cons] at g
    have g' := Bool.and_eq_true_iff.mp g
    unfold inV inD
    rw [List.any_cons, List.any_cons, eqV_D h p g'.1 f]
    have ih := inV_D p f t g'.2
    unfold inV inD at ih
    rw [ih]
theorem inPy {d : D} (o : dOk d 60 = true) : ∀ (ds : List D), dOks ds 59 = true → ((toPys ds).any fun z => PyData.eqv z (toPy d)) = inD d ds
  | [], _ => rfl
  | x :: xs, h => by
    have h1 : dOk x 59 = true ∧ dOks xs 59 = true := by simpa [dOks] using h
    have ih := inPy o xs h1.2
    unfold inD at ih ⊢
    rw [toPys, List.any_cons, List.any_cons, toPy_eq x d _ _ h1.1 o, ih]
theorem in_up {neg : Bool} {u v : V} {d e : D} {R : KD} {Q : VK} (S : SRp K B H m) (p : Dp K B u d) (q : Dp K B v e) (h : wInB d e m fun b => R (.bl (if neg then !b else b)) m) (t : Thn K B H m R Q) :
    (∃ (c : Nat) (z : Str), u = .str ⟨#[c]⟩ ∧ v = .str z ∧ Q (.bl (if neg then !decide (c ∈ z.cps.toList) else decide (c ∈ z.cps.toList))) H) ∨ rIn K neg u v H Q ∨
    (∃ d ds, L2.Dp K H u d ∧ L2.Dp K H v (.list ds) ∧ SeqAt.shaped d = true ∧ SeqAt.shaped (.list ds) = true ∧ Q (.bl (if neg then !(ds.any fun z => PyData.eqv z d) else (ds.any fun z => PyData.eqv z d))) H) := by
  have lst : (∃ xs, asL m e = some xs ∧ ((flatD d = true ∧ xs.all flatD = true) ∨ (dOk d 60 = true ∧ dOks xs 59 = true)) ∧ R (.bl (if neg then !inD d xs else inD d xs)) m) → rIn K neg u v H Q ∨
      (∃ d ds, L2.Dp K H u d ∧ L2.Dp K H v (.list ds) ∧ SeqAt.shaped d = true ∧ SeqAt.shaped (.list ds) = true ∧ Q (.bl (if neg then !(ds.any fun z => PyData.eqv z d) else (ds.any fun z => PyData.eqv z d))) H) := fun ⟨xs, h1, h2, h3⟩ => by
    obtain ⟨a, vs, ea, ha, pa⟩ := seqL S q h1
    rcases h2 with ⟨f, g⟩ | ⟨f, g⟩
    · refine .inl ⟨a, vs, ea, .inl (.inl (.inl ha)), flat_D p f, flats_D pa g, ?_⟩
      rw [inV_D p f pa g]
      exact eff_ret S t (.bl _) h3
    · refine .inr ⟨toPy d, toPys xs, toPy_dp S.same p f, ?_, toPy_shaped f (by decide), toPy_shaped (d := .lst xs) (n := 60) (by simpa [dOk] using g) (by decide), ?_⟩
      · subst ea; exact .lst (.inl (.inl ha)) (toPys_dp S.same pa g)
      · rw [inPy f xs g]; exact eff_ret S t (.bl _) h3
  cases q with
  | str z =>
    obtain ⟨c, ec, h⟩ := h
    subst ec
    cases p
    exact .inl ⟨c, z, rfl, rfl, eff_ret S t (.bl _) h⟩
  | tup h1 h2 =>
    obtain ⟨f, g, h⟩ := h
    refine .inr (.inl ⟨_, _, rfl, .inr (sqT_mono S.same h1), flat_D p f, flats_D h2 g, ?_⟩)
    rw [inV_D p f h2 g]
    exact eff_ret S t (.bl _) h
  | _ => exact .inr (lst h)
theorem in_ (hu : X.A.units + 65 < cLine) : OpD X (compareOp .In) wIn := by
  refine ⟨_, op_in_sign.or (op_in_seq.or (op_inD hu)), fun B u v d e p q H m R Q S h t => ?_⟩
  have z := in_up (neg := false) S p q h t
  rcases z with z | z | z
  · exact .inl z
  · exact .inr (.inl z)
  · exact .inr (.inr z)
theorem notin_ (hu : X.A.units + 65 < cLine) : OpD X (compareOp .NotIn) wNotIn := by
  refine ⟨_, op_notIn_sign.or (op_notIn_seq.or (op_notInD hu)), fun B u v d e p q H m R Q S h t => ?_⟩
  have z := in_up (neg := true) S p q h t
  rcases z with z | z | z
  · exact .inl z
  · exact .inr (.inl z)
  · exact .inr (.inr z)
theorem isN_ : OpD X (compareOp .Is) wIsN := by
  refine ⟨_, op_isN, fun B u v d e p q H m R Q S h t => ?_⟩
  obtain ⟨ee, h⟩ := h
  subst ee
  cases q
  refine ⟨rfl, ?_⟩
  cases p <;> first | exact eff_ret S t (.bl _) h | exact h.elim
theorem notN_ : OpD X (compareOp .IsNot) wNotN := by
  refine ⟨_, op_notN, fun B u v d e p q H m R Q S h t => ?_⟩
  obtain ⟨ee, h⟩ := h
  subst ee
  cases q
  refine ⟨rfl, ?_⟩
  cases p <;> first | exact eff_ret S t (.bl _) h | exact h.elim
theorem ix_ : IxD X wIx := by
  refine ⟨_, ix_seq, fun B u v d e p q H m R Q S h t => ?_⟩
  cases q with
  | int i =>
    have seq : (ok (asQ m d) fun xs => ok (atL xs i) fun v => R v m) → rIx X.K u (.int i) H Q := fun h => by
      obtain ⟨xs, h1, h⟩ := ok_iff.mp h
      obtain ⟨z, h2, h⟩ := ok_iff.mp h
      obtain ⟨a, vs, ea, hq, pa⟩ := seqQ S p h1
      obtain ⟨w, e1, pw⟩ := atL_get pa h2
      rcases hq with hq | hq
      · exact .inl ⟨a, vs, i, w, ea, rfl, hq, e1, eff_ret S t pw h⟩
      · exact .inr (.inl ⟨a, vs, i, w, ea, rfl, hq, e1, eff_ret S t pw h⟩)
    cases p with
    | str s =>
      obtain ⟨hl, h⟩ := h
      obtain ⟨c, h1, h⟩ := ok_iff.mp h
      exact .inr (.inr ⟨s, i, c, rfl, rfl, by rw [← LIM_eq]; exact hl, h1, eff_ret S t (.str _) h⟩)
    | _ => exact seq h
  | _ => exfalso; cases p <;> exact h
theorem cut_ {b : Bool} : SlD X (wCut b) := by
  refine ⟨_, (sl_list.or sl_tupA).or sl_str, fun B u d lo hi p H m R Q S h t => ?_⟩
  cases p with
  | tup h1 h2 =>
    rename_i a0 vs0 ds0
    refine .inl (.inr ⟨_, _, rfl, sqT_mono S.same h1, fun z => ?_, fun z => ?_⟩)
    · have e : cutL ds0 lo hi = ds0 := by
        unfold cutL
        rw [sIxD_eq, sIxD_eq, ← h2.length, z.1, z.2, List.drop_zero, Nat.sub_zero, h2.length, List.take_length]
      have h' : R (.tup (cutL ds0 lo hi)) m := h
      rw [e] at h'
      exact eff_ret S t (.tup h1 h2) h'
    · rw [cutL_v]
      exact eff_tup S t (h2.cut lo hi) h
  | str s =>
    refine .inr ⟨s, rfl, by rw [← LIM_eq]; exact h.1, ?_⟩
    have e : cutS s lo hi = ⟨(cutL s.cps.toList lo hi).toArray⟩ := by
      unfold cutS cutL
      rw [sIxD_eq, sIxD_eq, Array.length_toList]
      rfl
    rw [e]
    exact eff_ret S t (.str _) h.2
  | lst h1 h2 =>
    rename_i a1 vs1 ds1
    have h : ok (asL m (.lst ds1)) fun xs => wNw b (cutL xs lo hi) m R := h
    obtain ⟨xs, g1, g2⟩ := ok_iff.mp h
    obtain ⟨a, vs, ea, ha, pa⟩ := seqL S (.lst h1 h2) g1
    refine .inl (.inl ⟨a, vs, ea, .inl (.inl ha), ?_⟩)
    rw [cutL_v]
    exact eff_nw S t (pa.cut lo hi) g2
  | ref a0 =>
    have h : ok (asL m (.ref a0)) fun xs => wNw b (cutL xs lo hi) m R := h
    obtain ⟨xs, g1, g2⟩ := ok_iff.mp h
    obtain ⟨a, vs, ea, ha, pa⟩ := seqL S (.ref a0) g1
    refine .inl (.inl ⟨a, vs, ea, .inl (.inl ha), ?_⟩)
    rw [cutL_v]
    exact eff_nw S t (pa.cut lo hi) g2
  | _ => exact h.elim
end
end DL
end
section
set_option maxHeartbeats 0
namespace DL
open PySem PySem.Spec PyProof.Rows L2
section
variable {X : Cx} {W : WX} {a b c o e : Expr} {fa fb fc : WE} {pos p apos : Pos} {es : List Expr} {ga : WA}
theorem irp_at {K : PySem.W.Frag} {B : Hp} {J : It} {vs : List V} {ds : List D} {G : Store → Prop} {P : Hp → Prop} (w : Walk J vs.length P (YAt vs)) (hp : DpAll K B vs ds) (hG : ∀ B' H m, Same B B' → SRp K B' H m → G m → P H) : IRp K B J ds G := by
  refine ⟨fun i B' H m hi s S g => w.goes i H (by rw [hp.length]; exact hi) (hG B' H m s S g), fun B' H m s S g => by rw [← hp.length]; exact w.stops H (hG B' H m s S g), fun i B' H m x H' hi s S g y => ?_⟩
  obtain ⟨e, ex⟩ := w.yields i H x H' (by rw [hp.length]; exact hi) (hG B' H m s S g) y
  subst e
  obtain ⟨v, h1, h2⟩ := hp.get (List.getElem?_eq_getElem hi)
  rw [ex] at h1
  cases h1
  exact ⟨B', _, List.getElem?_eq_getElem hi, Same.refl _, S, Frm.refl, h2.mono s⟩
def tAny (K : PySem.W.Frag) (tl : TE) : TI := fun σ H R => tl σ H fun x H1 => (∃ a, x = .ref a ∧ (∃ xs, SqL K H1 a xs) ∧ R (Itl K a) H1) ∨ (∃ a, x = .ref a ∧ (∃ xs, SqT K H1 a xs) ∧ R (Itt K a) H1) ∨ (∃ y, x = .str y ∧ R (Its y) H1)
theorem pi_any {tg l : Expr} {tl : TE} (hl : PE X l tl) : PI X tg l (tAny X.K tl) := by
  refine ⟨fun pins s σ H R I h => ?_⟩
  refine thn (hl.run pins s σ H _ I h) fun v s1 ⟨x, H1, I1, r1, q1⟩ => ?_
  rcases q1 with ⟨a, e, ⟨xs, hq⟩, q⟩ | ⟨a, e, ⟨xs, hq⟩, q⟩ | ⟨y, e, q⟩
  · subst e
    cases r1
    obtain ⟨its, rv, p, hz⟩ := I1.list hq
    refine wpAny_pyIter_list p.isList ?_
    refine ⟨s1.heap.objs.size, [s1.heap.objs.size], _, _, H1, rfl, I1.kept (t' := s1.toks) fun b o e => Heap.get?_push_of_some _ e, turn_list a _, ⟨_, Heap.get?_push_size _ rfl, rfl, rfl⟩, fun b hb => ?_, q⟩
    have e : b = s1.heap.objs.size := by simpa using hb
    subst e
    exact I1.fpOk (Nat.le_refl _) (I1.hok.fresh (Nat.le_refl _))
  · subst e
    cases r1
    obtain ⟨its, rv, p, hz⟩ := I1.tuple hq
    refine wpAny_pyIter_tuple (show s1.heap.IsTuple a its.toArray from p) ?_
    refine ⟨s1.heap.objs.size, [s1.heap.objs.size], _, _, H1, rfl, I1.kept (t' := s1.toks) fun b o e => Heap.get?_push_of_some _ e, turn_tuple a _, ⟨_, Heap.get?_push_size _ rfl, rfl, rfl⟩, fun b hb => ?_, q⟩
    have e : b = s1.heap.objs.size := by simpa using hb
    subst e
    exact I1.fpOk (Nat.le_refl _) (I1.hok.fresh (Nat.le_refl _))
  · subst e
    obtain ⟨t, rfl⟩ := r1
    cases ha : y.cps.all (· < 128)
    · exact wpAny_pyIter_wide ha (pi_one (tk := s1.toks) I1 _ (turn_str _ y t "str_iterator" (.inr rfl)) ⟨_, Heap.get?_push_size _ rfl, rfl, rfl⟩ q)
    · exact wpAny_pyIter_ascii ha (pi_one (tk := s1.toks) I1 _ (turn_str _ y t "str_ascii_iterator" (.inl rfl)) ⟨_, Heap.get?_push_size _ rfl, rfl, rfl⟩ q)
theorem irp_str {K : PySem.W.Frag} {B : Hp} {z : Str} : IRp K B (Its z) (z.cps.toList.map fun c => .str ⟨#[c]⟩) (fun _ => True) := by
  have w := walk_str (z := z)
  have e : (z.cps.toList.map fun c => D.str ⟨#[c]⟩).length = z.cps.size := by simp
  refine ⟨fun i B' H m hi s S g => w.goes i H (by rw [← e]; exact hi) trivial, fun B' H m s S g => by rw [e]; exact w.stops H trivial, fun i B' H m x H' hi s S g y => ?_⟩
  obtain ⟨e1, c, hc, ex⟩ := w.yields i H x H' (by rw [← e]; exact hi) trivial y
  subst e1
  subst ex
  refine ⟨B', _, ?_, Same.refl _, S, Frm.refl, .str _⟩
  rw [List.getElem?_map, Array.getElem?_toList, hc]; rfl
theorem asI_up {K : PySem.W.Frag} {B H : Hp} {m : Store} {v : V} {d : D} {Kd : List D → (Store → Prop) → Prop} {R : It → Hp → Prop} (S : SRp K B H m) (p : Dp K B v d) (h : asI m d Kd) (q : ∀ J ds G, IRp K B J ds G → Kd ds G → R J H) :
    (∃ a, v = .ref a ∧ (∃ xs, SqL K H a xs) ∧ R (Itl K a) H) ∨ (∃ a, v = .ref a ∧ (∃ xs, SqT K H a xs) ∧ R (Itt K a) H) ∨ (∃ y, v = .str y ∧ R (Its y) H) := by
  cases p with
  | tup h1 h2 => exact .inr (.inl ⟨_, rfl, ⟨_, sqT_mono S.same h1⟩, q _ _ _ (irp_at walk_tup h2 fun B' H m s S _ => sqT_mono (s.trans S.same) h1) h⟩)
  | lst h1 h2 => exact .inl ⟨_, rfl, ⟨_, .inl (.inl (S.same _ _ h1))⟩, q _ _ _ (irp_at walk_list h2 fun B' H m s S _ => .inl (.inl (S.same _ _ (s _ _ h1)))) h⟩
  | str y => exact .inr (.inr ⟨y, rfl, q _ _ _ irp_str h⟩)
  | ref a =>
    simp only [asI] at h
    cases e : m a with
    | none => rw [e] at h; exact h.elim
    | some mo => cases mo with
      | lst xs =>
        rw [e] at h
        obtain ⟨vs, hv, pv⟩ := S.list e
        refine .inl ⟨a, rfl, ⟨_, .inl (.inl hv)⟩, q _ _ _ ?_ h⟩
        have hl : xs.length = vs.length := pv.length.symm
        refine ⟨fun i B' H m hi s S g => ?_, fun B' H m s S g => ?_, fun i B' H m x H' hi s S g y => ?_⟩
        · obtain ⟨ws, hw, pw⟩ := S.list g
          exact (walk_list (K := K) (xs := ws)).goes i H (by rw [pw.length]; exact hi) (.inl (.inl hw))
        · obtain ⟨ws, hw, pw⟩ := S.list g
          rw [← pw.length]
          exact (walk_list (K := K) (xs := ws)).stops H (.inl (.inl hw))
        · obtain ⟨ws, hw, pw⟩ := S.list g
          obtain ⟨e1, ex⟩ := (walk_list (K := K) (xs := ws)).yields i H x H' (by rw [pw.length]; exact hi) (.inl (.inl hw)) y
          subst e1
          obtain ⟨v', g1, g2⟩ := pw.get (List.getElem?_eq_getElem hi)
          rw [ex] at g1
          cases g1
          exact ⟨B', _, List.getElem?_eq_getElem hi, Same.refl _, S, Frm.refl, g2⟩
      | _ => rw [e] at h; exact h.elim
  | _ => exact h.elim
theorem pid_seq {tg : Expr} (ha : PE X a (up X.K W fa)) : PI X tg a (upI X.K W (iSeq fa)) := PI.imp (pi_any ha) fun σ H R ⟨B, r, m, R', x, er, S, h, t, tx⟩ =>
  ⟨B, r, m, _, x, er, S, h, fun B1 d m1 u H1 s1 S1 f1 p1 q1 => asI_up S1 p1 q1 fun J ds G ir k => t B1 ds G m1 H1 J s1 S1 f1 ir k, tx⟩
theorem irp_range {K : PySem.W.Frag} {B : Hp} {i j : Int} : IRp K B (Itr i (j - i).toNat) (rangeD i j) (fun _ => True) := by
  have w := walk_range (lo := i) (n := (j - i).toNat)
  have e : (rangeD i j).length = (j - i).toNat := by simp [rangeD]
  refine ⟨fun k B' H m hi s S g => w.goes k H (by rw [← e]; exact hi) trivial, fun B' H m s S g => by rw [e]; exact w.stops H trivial, fun k B' H m x H' hi s S g y => ?_⟩
  obtain ⟨e1, ex⟩ := w.yields k H x H' (by rw [← e]; exact hi) trivial y
  subst e1
  subst ex
  refine ⟨B', _, ?_, Same.refl _, S, Frm.refl, .int _⟩
  unfold rangeD
  rw [List.getElem?_map, List.getElem?_range (by rw [← e]; exact hi)]; rfl
theorem pid_range1 {tg : Expr} (hg : Gl X "range") (hm : X.mg "range" = none) (ha : PE X a (up X.K W fa)) (hs : starEach [a] X.env = [(false, eval a X.env)] := by rfl) : PI X tg (.Call (.Name "range" p) [a] [] pos) (upI X.K W (iRange1 fa)) := PI.imp (pi_range1 hg hm (pa_cons ha pa_nil hs) hs) fun σ H R ⟨B, r, m, R', x, er, S, h, t, tx⟩ => by
  refine ⟨B, r, m, _, x, er, S, h, fun B1 d m1 u H1 s1 S1 f1 p1 q1 => ?_, tx⟩
  cases p1 with
  | int j =>
    refine ⟨j, rfl, q1.1, q1.2.1, ?_⟩
    have ir := irp_range (K := X.K) (B := B1) (i := 0) (j := j)
    rw [Int.sub_zero] at ir
    exact t B1 _ _ m1 H1 _ s1 S1 f1 ir q1.2.2
  | _ => exact q1.elim
theorem pid_range2 {tg : Expr} (hg : Gl X "range") (hm : X.mg "range" = none) (ha : PE X a (up X.K W fa)) (hb : PE X b (up X.K W fb)) (hs : starEach [a, b] X.env = [(false, eval a X.env), (false, eval b X.env)] := by rfl) (hs2 : starEach [b] X.env = [(false, eval b X.env)] := by rfl) :
    PI X tg (.Call (.Name "range" p) [a, b] [] pos) (upI X.K W (iRange2 fa fb)) := PI.imp (pi_range2 hg hm (pa_cons ha (pa_cons hb pa_nil hs2) (by rw [hs, hs2])) hs hs2) fun σ H R ⟨B, r, m, R', x, er, S, h, t, tx⟩ => by
  refine ⟨B, r, m, _, x, er, S, h, fun B1 d m1 u H1 s1 S1 f1 p1 q1 => ?_, tx⟩
  refine ⟨B1, r, m1, _, x, er.mono s1, S1, q1, fun B2 e m2 v H2 s2 S2 f2 p2 q2 => ?_, tx.step s1 f1⟩
  cases p1 with
  | int i => cases p2 with
    | int j => exact ⟨i, j, rfl, q2.1, t B2 _ _ m2 H2 _ (s1.trans s2) S2 (f1.trans f2) irp_range q2.2⟩
    | _ => exact q2.elim
  | _ => exfalso; cases p2 <;> exact q2
theorem enumD_get : ∀ (n : Nat) (ds : List D) (i : Nat), (enumD n ds)[i]? = (ds[i]?).map fun d => D.tup [.int ((n + i : Nat) : Int), d]
  | n, [], i => by simp [enumD]
  | n, d :: ds, 0 => by simp [enumD]
  | n, d :: ds, i + 1 => by
    have h := enumD_get (n + 1) ds i
    simp only [enumD, List.getElem?_cons_succ, h]
    rw [show n + 1 + i = n + (i + 1) by omega]
theorem enumD_len : ∀ (n : Nat) (ds : List D), (enumD n ds).length = ds.length
  | n, [] => rfl
  | n, d :: ds => by simp [enumD, enumD_len (n + 1) ds]
theorem pair_yield {K : PySem.W.Frag} {B' H H' : Hp} {m : Store} {x y : V} {d e : D} {T : Addr} (S : SRp K B' H m) (nT : H T = none) (eH : H' = upd H T (.tup [x, y])) (p : Dp K B' x d) (q : Dp K B' y e) :
    ∃ B2, Same B' B2 ∧ SRp K B2 H' m ∧ Frm B' H m B2 H' m ∧ Dp K B2 (.ref T) (.tup [d, e]) := by
  subst eH
  obtain ⟨s1, S1, f1⟩ := S.frz (ho := .tup [x, y]) nT
  exact ⟨_, s1, S1, f1, .tup (.inl (.inl upd_same)) (.cons (p.mono s1) (.cons (q.mono s1) .nil))⟩
theorem irp_enum {K : PySem.W.Frag} {B : Hp} {a : Addr} {ds : List D} {G : Store → Prop} (hG : ∀ B' H m, Same B B' → SRp K B' H m → G m → ∃ ws, SqL K H a ws ∧ DpAll K B' ws ds) : IRp K B (Ite K a) (enumD 0 ds) G := by
  refine ⟨fun i B' H m hi s S g => ?_, fun B' H m s S g => ?_, fun i B' H m x H' hi s S g y => ?_⟩
  · obtain ⟨ws, hw, pw⟩ := hG B' H m s S g
    rw [enumD_len] at hi
    exact (walk_enum (K := K) (xs := ws)).goes i H (by rw [pw.length]; exact hi) hw
  · obtain ⟨ws, hw, pw⟩ := hG B' H m s S g
    rw [enumD_len, ← pw.length]
    exact (walk_enum (K := K) (xs := ws)).stops H hw
  · obtain ⟨ws, hw, pw⟩ := hG B' H m s S g
    rw [enumD_len] at hi
    obtain ⟨T, x1, x2, rfl, nT, eH, g1, g2⟩ := (walk_enum (K := K) (xs := ws)).yields i H x H' (by rw [pw.length]; exact hi) hw y
    cases g1
    obtain ⟨v', z1, z2⟩ := pw.get (List.getElem?_eq_getElem hi)
    have g2 : ws[i]? = some x2 := g2
    rw [g2] at z1
    cases z1
    obtain ⟨B2, q1, q2, q3, q4⟩ := pair_yield S nT eH (.int (i : Nat)) z2
    exact ⟨B2, _, by rw [enumD_get, List.getElem?_eq_getElem hi]; simp, q1, q2, q3, q4⟩
def iEnumL (a : WE) : WI := fun r m K x => a r m (fun u m1 => match u with
  | .lst xs => K (enumD 0 xs) (fun _ => True) m1
  | .ref a => ok (asL m1 (.ref a)) fun xs => K (enumD 0 xs) (fun m' => m' a = some (.lst xs)) m1
  | _ => False) x
theorem pid_enum {elts : List Expr} {kk : Nat} {tpos : Pos} (hg : Gl X "enumerate") (hm : X.mg "enumerate" = none) (ha : PE X a (up X.K W fa)) (hs : starEach [a] X.env = [(false, eval a X.env)] := by rfl) : PI X (.Tuple elts kk tpos) (.Call (.Name "enumerate" p) [a] [] pos) (upI X.K W (iEnumL fa)) := PI.imp (pi_enum hg hm (pa_cons ha pa_nil hs) hs) fun σ H R ⟨B, r, m, R', x, er, S, h, t, tx⟩ => by
  refine ⟨B, r, m, _, x, er, S, h, fun B1 d m1 u H1 s1 S1 f1 p1 q1 => ?_, tx⟩
  cases p1 with
  | lst h1 h2 => exact ⟨_, _, rfl, .inl (.inl (S1.same _ _ h1)), t B1 _ _ m1 H1 _ s1 S1 f1 (irp_enum fun B' H m s S _ => ⟨_, .inl (.inl (S.same _ _ (s _ _ h1))), h2.mono s⟩) q1⟩
  | ref a0 =>
    obtain ⟨xs, e1, q⟩ := ok_iff.mp q1
    obtain ⟨a2, vs, ea, ha, pa⟩ := seqL S1 (.ref a0) e1
    cases ea
    refine ⟨_, _, rfl, .inl (.inl ha), t B1 _ _ m1 H1 _ s1 S1 f1 (irp_enum fun B' H m s S g => ?_) q⟩
    obtain ⟨ws, hw, pw⟩ := S.list g
    exact ⟨ws, .inl (.inl hw), pw⟩
  | _ => exact q1.elim
theorem zipD_get : ∀ (xs ys : List D) (i : Nat) (x y : D), xs[i]? = some x → ys[i]? = some y → (zipD xs ys)[i]? = some (.tup [x, y])
  | [], _, _, _, _, h, _ => by simp at h
  | _ :: _, [], _, _, _, _, h => by simp at h
  | x :: xs, y :: ys, 0, _, _, h1, h2 => by simp at h1 h2; subst h1; subst h2; simp [zipD]
  | x :: xs, y :: ys, i + 1, _, _, h1, h2 => by simpa [zipD] using zipD_get xs ys i _ _ (by simpa using h1) (by simpa using h2)
theorem zipD_len : ∀ (xs ys : List D), (zipD xs ys).length = min xs.length ys.length
  | [], ys => by simp [zipD]
  | _ :: _, [] => by simp [zipD]
  | x :: xs, y :: ys => by simp [zipD, zipD_len xs ys]
theorem irp_zip {K : PySem.W.Frag} {B : Hp} {J : It} {vs ws : List V} {ds es : List D} {P : Hp → Prop} (w : Walk J (min vs.length ws.length) P (YPair (fun i => vs[i]?) (fun i => ws[i]?))) (hp : DpAll K B vs ds) (hq : DpAll K B ws es) (hG : ∀ B' H m, Same B B' → SRp K B' H m → P H) : IRp K B J (zipD ds es) (fun _ => True) := by
  have el : (zipD ds es).length = min vs.length ws.length := by rw [zipD_len, hp.length, hq.length]
  refine ⟨fun i B' H m hi s S g => w.goes i H (by rw [← el]; exact hi) (hG B' H m s S), fun B' H m s S g => by rw [el]; exact w.stops H (hG B' H m s S), fun i B' H m x H' hi s S g y => ?_⟩
  obtain ⟨T, x1, x2, rfl, nT, eH, g1, g2⟩ := w.yields i H x H' (by rw [← el]; exact hi) (hG B' H m s S) y
  have hi' : i < min ds.length es.length := by rw [zipD_len] at hi; exact hi
  obtain ⟨v1, z1, z2⟩ := hp.get (List.getElem?_eq_getElem (show i < ds.length by omega))
  obtain ⟨v2, y1, y2⟩ := hq.get (List.getElem?_eq_getElem (show i < es.length by omega))
  have g1 : vs[i]? = some x1 := g1
  have g2 : ws[i]? = some x2 := g2
  rw [g1] at z1; cases z1
  rw [g2] at y1; cases y1
  obtain ⟨B2, q1, q2, q3, q4⟩ := pair_yield S nT eH (z2.mono s) (y2.mono s)
  exact ⟨B2, _, zipD_get _ _ i _ _ (List.getElem?_eq_getElem (by omega)) (List.getElem?_eq_getElem (by omega)), q1, q2, q3, q4⟩
theorem walk_zipT {K : PySem.W.Frag} {a b : Addr} {xs ys : List V} : Walk (RZ.ItzT K a b) (min xs.length ys.length) (fun H => SqT K H a xs ∧ SqT K H b ys) (YPair (fun i => xs[i]?) (fun i => ys[i]?)) := by
  refine ⟨fun i _ hi q => ?_, fun _ q => ⟨xs, ys, q.1, q.2, by omega⟩, fun i H v H' _ q y => ?_⟩
  · have h1 : i < xs.length := by omega
    have h2 : i < ys.length := by omega
    exact ⟨xs, ys, xs[i], ys[i], q.1, q.2, by simp [h1], by simp [h2]⟩
  · obtain ⟨T, x, z, h1, h2, h3, h4, h5⟩ := y
    exact ⟨T, x, z, h1, h2, h3, h4 xs q.1, h5 ys q.2⟩
def iZipQ (a b : WE) : WI := fun r m K x => a r m (fun u m1 => b r m1 (fun v m2 => match u, v with
  | .tup xs, .tup ys => K (zipD xs ys) (fun _ => True) m2
  | .lst xs, .lst ys => K (zipD xs ys) (fun _ => True) m2
  | _, _ => False) x) x
theorem pid_zip {elts : List Expr} {kk : Nat} {tpos : Pos} (hg : Gl X "zip") (hm : X.mg "zip" = none) (ha : PE X a (up X.K W fa)) (hb : PE X b (up X.K W fb)) (hs : starEach [a, b] X.env = (false, eval a X.env) :: starEach [b] X.env := by rfl) (hs2 : starEach [b] X.env = [(false, eval b X.env)] := by rfl) (hpl : (backTo pos (starEach [b] X.env)).any (·.1) = false := by rfl) :
    PI X (.Tuple elts kk tpos) (.Call (.Name "zip" p) [a, b] [] pos) (upI X.K W (iZipQ fa fb)) := PI.imp (RZ.pi_zipA hg hm (pa_cons ha (pa_cons hb pa_nil hs2) hs) hs hpl) fun σ H R ⟨B, r, m, R', x, er, S, h, t, tx⟩ => by
  refine ⟨B, r, m, _, x, er, S, h, fun B1 d m1 u H1 s1 S1 f1 p1 q1 => ?_, tx⟩
  refine ⟨B1, r, m1, _, x, er.mono s1, S1, q1, fun B2 e m2 v H2 s2 S2 f2 p2 q2 => ?_, tx.step s1 f1⟩
  have p1 := p1.mono s2
  cases p1 with
  | tup h1 h2 => cases p2 with
    | tup h3 h4 => exact ⟨_, _, _, _, rfl, .inr ⟨sqT_mono S2.same h1, sqT_mono S2.same h3, t B2 _ _ m2 H2 _ (s1.trans s2) S2 (f1.trans f2) (irp_zip walk_zipT h2 h4 fun B' H m s S => ⟨sqT_mono (s.trans S.same) h1, sqT_mono (s.trans S.same) h3⟩) q2⟩⟩
    | _ => exact q2.elim
  | lst h1 h2 => cases p2 with
    | lst h3 h4 => exact ⟨_, _, _, _, rfl, .inl ⟨.inl (.inl (S2.same _ _ h1)), .inl (.inl (S2.same _ _ h3)), t B2 _ _ m2 H2 _ (s1.trans s2) S2 (f1.trans f2) (irp_zip (walk_zip rfl) h2 h4 fun B' H m s S => ⟨.inl (.inl (S.same _ _ (s _ _ h1))), .inl (.inl (S.same _ _ (s _ _ h3)))⟩) q2⟩⟩
    | _ => exact q2.elim
  | _ => exfalso; cases p2 <;> exact q2
theorem wipe_name {i : Nat} {vs : List Nat} (hi : i ∈ vs) (σ : L2.St) (x : Option V) : wipe ((wipe σ vs).set i x) vs = wipe σ vs := by
  have idem : ∀ (us : List Nat) (τ : L2.St), (∀ j ∈ us, τ[j]? = some none ∨ τ[j]? = none) → wipe τ us = τ := by
    intro us
    induction us with
    | nil => intro τ _; rfl
    | cons u us ih =>
      intro τ h
      unfold wipe
      rw [ih τ fun j hj => h j (List.mem_cons_of_mem _ hj)]
      apply List.ext_getElem?
      intro n
      rw [List.getElem?_set]
      split
      · rename_i e
        subst e
        rcases h u List.mem_cons_self with z | z
        · rw [z]; simp [(List.getElem?_eq_some_iff.mp z).1]
        · rw [z]; simp [List.getElem?_eq_none_iff.mp z]
      · rfl
  have at_ : ∀ (us : List Nat) (τ : L2.St) (j : Nat), (wipe τ us)[j]? = if j ∈ us then (if j < τ.length then some none else none) else τ[j]? := by
    intro us
    induction us with
    | nil => intro τ j; simp [wipe]
    | cons u us ih =>
      intro τ j
      unfold wipe
      rw [List.getElem?_set, ih, wipe_length]
      by_cases e : u = j
      · subst e
        rw [if_pos rfl, if_pos List.mem_cons_self]
      · rw [if_neg e]
        have : (j ∈ u :: us) ↔ (j ∈ us) := by simp [Ne.symm e]
        by_cases hj : j ∈ us
        · rw [if_pos hj, if_pos (this.mpr hj)]
        · rw [if_neg hj, if_neg (fun z => hj (this.mp z))]
  apply List.ext_getElem?
  intro n
  rw [at_, at_, List.length_set, wipe_length]
  by_cases hn : n ∈ vs
  · rw [if_pos hn, if_pos hn]
  · rw [if_neg hn, if_neg hn, List.getElem?_set_ne (show i ≠ n from fun z => hn (by rw [← z]; exact hi)), at_, if_neg hn]
theorem lcw_name {i : Nat} {vs : List Nat} (hi : i ∈ vs) : ∀ x σ H Q, gName i x (wipe σ vs) H Q → gName i x (wipe σ vs) H fun σ2 H2 => wipe σ2 vs = wipe σ vs ∧ Q σ2 H2 := fun x σ H Q h => ⟨wipe_name hi σ _, h⟩
theorem wipe_names {vs : List Nat} {Q : L2.St → Hp → Prop} {H : Hp} : ∀ (is : List Nat) (xs : List V) (σ τ : L2.St), (∀ i ∈ is, i ∈ vs) → wipe τ vs = wipe σ vs → gNames is xs τ H Q → gNames is xs τ H fun σ2 H2 => wipe σ2 vs = wipe σ vs ∧ Q σ2 H2
  | [], xs, σ, τ, _, e, h => ⟨h.1, e, h.2⟩
  | i :: is, xs, σ, τ, hv, e, h => by
    obtain ⟨v, r, ex, h⟩ := h
    refine ⟨v, r, ex, wipe_names is r σ _ (fun j hj => hv j (List.mem_cons_of_mem _ hj)) ?_ h⟩
    have hi := hv i List.mem_cons_self
    have z : ∀ (us : List Nat) (τ : L2.St), i ∈ us → wipe (τ.set i (some v)) us = wipe τ us := by
      intro us
      induction us with
      | nil => intro τ h; cases h
      | cons u us ih =>
        intro τ h
        unfold wipe
        by_cases hu : i ∈ us
        · rw [ih τ hu]
        · have eu : i = u := by rcases List.mem_cons.mp h with z | z; exact z; exact absurd z hu
          subst eu
          have c : ∀ (ws : List Nat) (τ : L2.St), i ∉ ws → wipe (τ.set i (some v)) ws = (wipe τ ws).set i (some v) := by
            intro ws
            induction ws with
            | nil => intro τ _; rfl
            | cons w ws ih2 =>
              intro τ hw
              unfold wipe
              rw [ih2 τ (fun z => hw (List.mem_cons_of_mem _ z)), List.set_comm _ _ (show i ≠ w from fun z => hw (by rw [z]; exact List.mem_cons_self))]
          rw [c us τ hu, List.set_set]
    rw [z vs τ hi, e]
theorem lcw_tup {K : PySem.W.Frag} {is vs : List Nat} (hi : ∀ i ∈ is, i ∈ vs) : ∀ x σ H Q, gTup K is.length (gNames is) x (wipe σ vs) H Q → gTup K is.length (gNames is) x (wipe σ vs) H fun σ2 H2 => wipe σ2 vs = wipe σ vs ∧ Q σ2 H2 := fun x σ H Q ⟨a, xs, e, h1, h2, h⟩ => ⟨a, xs, e, h1, h2, wipe_names is xs σ _ hi (by
  cases vs with
  | nil => rfl
  | cons v vs =>
    have at_ : ∀ (us : List Nat) (τ : L2.St) (j : Nat), (wipe τ us)[j]? = if j ∈ us then (if j < τ.length then some none else none) else τ[j]? := by
      intro us
      induction us with
      | nil => intro τ j; simp [wipe]
      | cons u us ih =>
        intro τ j
        unfold wipe
        rw [List.getElem?_set, ih, wipe_length]
        by_cases e : u = j
        · subst e
          rw [if_pos rfl, if_pos List.mem_cons_self]
        · rw [if_neg e]
          have : (j ∈ u :: us) ↔ (j ∈ us) := by simp [Ne.symm e]
          by_cases hj : j ∈ us
          · rw [if_pos hj, if_pos (this.mpr hj)]
          · rw [if_neg hj, if_neg (fun z => hj (this.mp z))]
    apply List.ext_getElem?
    intro n
    rw [at_, at_, wipe_length]
    by_cases hn : n ∈ v :: vs
    · rw [if_pos hn, if_pos hn]
    · rw [if_neg hn, if_neg hn]) h⟩
section
variable {elt tg iter : Expr} {ifs : List Expr} {scope : Scope} {own : List (Str × Nat)} {fi : WI} {g : WG} {tG : TG} {t : WT} {e' : WE}
theorem ptsd_nil : PTs X [] (upT X.K W wYes) := ⟨fun pins s σ H Q I h => pts_nil.run pins s σ H Q I (by obtain ⟨B, r, m, R, x, er, S, h, t, _⟩ := h; exact t B _ m H (Same.refl B) S Frm.refl h)⟩
theorem pd_lc {bb : Bool} (hc : X.calm = true) (hN : X.N.Nodup) (ug : upG X.K g tG) (hw : ∀ x σ H Q, tG x (wipe σ (own.map (·.2))) H Q → tG x (wipe σ (own.map (·.2))) H fun σ2 H2 => wipe σ2 (own.map (·.2)) = wipe σ (own.map (·.2)) ∧ Q σ2 H2) (hi : PI X tg iter (upI X.K W fi)) (ok : BlkOk X.N X.env.scope scope own)
    (hg : ∀ (s : Shared) (H : Hp) (C : Addr) (cl : List (Str × Addr)) (fp : List Addr), PG (X.blk s H scope (compEnvC scope cl C X.env) fp) tg tG) (ht : ∀ (s : Shared) (H : Hp) (C : Addr) (cl : List (Str × Addr)) (fp : List Addr), PTs (X.blk s H scope (compEnvC scope cl C X.env) fp) ifs (upT X.K W0 t))
    (he : ∀ (s : Shared) (H : Hp) (C : Addr) (cl : List (Str × Addr)) (fp : List Addr), PE (X.blk s H scope (compEnvC scope cl C X.env) fp) elt (up X.K W0 e')) (hs : ∀ x, foldedSetIterable iter X.env x = pure x := by intro _; rfl) :
    PE X (.ListComp elt [⟨tg, iter, ifs, 0⟩] scope pos) (up X.K W (wLc bb (own.map (·.2)) fi g t e')) := PE.imp (pe_lc hc hN hi ok hg ht he hs) fun σ H Q h => lc_up ug hw h
theorem psd_setLc {bb : Bool} {i : Nat} {y : Str} {py spos : Pos} (hc : X.calm = true) (hN : X.N.Nodup) (hy : X.N[i]? = some y) (hyl : X.env.scope.names.lookup y = some .local)
    (hsw : swapsWith (.ListComp elt [⟨tg, iter, ifs, 0⟩] scope pos) (some (.Name y py)) spos.line X.env = pure true) (ug : upG X.K g tG) (hw : ∀ x σ H Q, tG x (wipe σ (own.map (·.2))) H Q → tG x (wipe σ (own.map (·.2))) H fun σ2 H2 => wipe σ2 (own.map (·.2)) = wipe σ (own.map (·.2)) ∧ Q σ2 H2) (hi : PI X tg iter (upI X.K W fi)) (ok : BlkOk X.N X.env.scope scope own)
    (hg : ∀ (s : Shared) (H : Hp) (C : Addr) (cl : List (Str × Addr)) (fp : List Addr), PG (X.blk s H scope (compEnvC scope cl C X.env) fp) tg tG) (ht : ∀ (s : Shared) (H : Hp) (C : Addr) (cl : List (Str × Addr)) (fp : List Addr), PTs (X.blk s H scope (compEnvC scope cl C X.env) fp) ifs (upT X.K W0 t))
    (he : ∀ (s : Shared) (H : Hp) (C : Addr) (cl : List (Str × Addr)) (fp : List Addr), PE (X.blk s H scope (compEnvC scope cl C X.env) fp) elt (up X.K W0 e')) (hs : ∀ x, foldedSetIterable iter X.env x = pure x := by intro _; rfl) :
    PS X (.Assign [.Name y py] (.ListComp elt [⟨tg, iter, ifs, 0⟩] scope pos) spos) (upS X.K W (wSet i (wLc bb (own.map (·.2)) fi g t e'))) := PS.imp (ps_setLc hc hN hy hyl hsw hi ok hg ht he hs) fun E σ H ⟨B, r, m, k, er, S, h, t⟩ =>
  lc_up ug hw ⟨B, r, m, _, _, er, S, h, fun B' d m' v H' s1 S1 f1 p q => t.nx B' _ _ m' H' s1 S1 f1 ((er.mono s1).set i p) q, t.x er⟩
end
end
end DL
end
section
set_option maxHeartbeats 0
namespace DL
open PySem
def tyN (m : Store) : D → Option String
  | .non => some "NoneType"
  | .bl _ => some "bool"
  | .int _ => some "int"
  | .str _ => some "str"
  | .tup _ => some "tuple"
  | .lst _ => some "list"
  | .ref a => match m a with
    | some (.lst _) => some "list"
    | some (.dct _) => some "dict"
    | _ => none
  | _ => none
def isiN (a b : String) : Bool := a == b || (a == "bool" && b == "int")
def wLen : WL := fun us m R => match us with
  | [.str s] => s.length ≤ LIM ∧ R (.int (s.length : Nat)) m
  | [d] => ok (asQ m d) fun xs => R (.int (xs.length : Nat)) m
  | _ => False
def wIsi : WL := fun us m R => match us with
  | [d, .ty T] => T ∈ ["int", "bool", "str", "tuple", "list"] ∧ ok (tyN m d) fun n => R (.bl (isiN n T)) m
  | _ => False
def wAll : WL := fun us m R => match us with
  | [d] => ∃ bs : List Bool, asL m d = some (bs.map .bl) ∧ R (.bl (bs.all id)) m
  | _ => False
def wAny : WL := fun us m R => match us with
  | [d] => ∃ bs : List Bool, asL m d = some (bs.map .bl) ∧ R (.bl (bs.any id)) m
  | _ => False
def wTuple : WL := fun us m R => match us with
  | [d] => ok (asQ m d) fun xs => R (.tup xs) m
  | _ => False
def wList (b : Bool) : WL := fun us m R => match us with
  | [d] => ok (asQ m d) fun xs => wNw b xs m R
  | _ => False
def wInt : WL := fun us m R => match us with
  | [.int i] => R (.int i) m
  | [.bl b] => R (.int (if b then 1 else 0)) m
  | _ => False
def wAbs : WL := fun us m R => match us with
  | [.int i] => R (.int (if i < 0 then -i else i)) m
  | _ => False
def wMax2 : WL := fun us m R => match us with
  | [.int i, .int j] => R (.int (if j > i then j else i)) m
  | _ => False
def wMin2 : WL := fun us m R => match us with
  | [.int i, .int j] => R (.int (if j < i then j else i)) m
  | _ => False
def wMinL : WL := fun us m R => match us with
  | [d] => ∃ ns : List Int, asL m d = some (ns.map .int) ∧ 0 < ns.length ∧ ∀ z, z ∈ ns → (∀ y, y ∈ ns → z ≤ y) → R (.int z) m
  | _ => False
def wMaxL : WL := fun us m R => match us with
  | [d] => ∃ ns : List Int, asL m d = some (ns.map .int) ∧ 0 < ns.length ∧ ∀ z, z ∈ ns → (∀ y, y ∈ ns → y ≤ z) → R (.int z) m
  | _ => False
def wSum : WL := fun us m R => match us with
  | [d] => ∃ ns : List Int, asL m d = some (ns.map .int) ∧ R (.int ns.sum) m
  | _ => False
def wSortI (b : Bool) : WL := fun us m R => match us with
  | [d] => ∃ ns : List Int, asL m d = some (ns.map .int) ∧ ∀ ns' : List Int, ns'.Perm ns → ns'.Pairwise (· ≤ ·) → wNw b (ns'.map .int) m R
  | _ => False
def tyM (T : String) (m : Store) (d : D) : Prop := match d with
  | .str _ => T = "str"
  | .lst _ => T = "list"
  | .ref a => match m a with
    | some (.lst _) => T = "list"
    | some (.dct _) => T = "dict"
    | _ => False
  | _ => False
abbrev WM := D → List D → Store → KD → Prop
def wMt (T : String) (w : WM) (o : WE) (a : WA) : WE := fun r m R x => o r m (fun u m1 => tyM T m1 u ∧ a r m1 (fun us m2 => w u us m2 R) x) x
def wAppend : WM := fun d us m R => match d, us with
  | .ref a, [y] => ∃ xs, m a = some (.lst xs) ∧ xs.length < LIM ∧ R .non (sup m a (.lst (xs ++ [y])))
  | _, _ => False
def wExtend : WM := fun d us m R => match d, us with
  | .ref a, [y] => ∃ xs ys, m a = some (.lst xs) ∧ asL m y = some ys ∧ xs.length + ys.length ≤ LIM ∧ R .non (sup m a (.lst (xs ++ ys)))
  | _, _ => False
def wPopAt : WM := fun d us m R => match d, us with
  | .ref a, [.int i] => ∃ xs, m a = some (.lst xs) ∧ 0 ≤ i ∧ i < 2 ^ 62 ∧ ok (xs[i.toNat]?) fun y => R y (sup m a (.lst (xs.eraseIdx i.toNat)))
  | _, _ => False
def wReverse : WM := fun d us m R => match d, us with
  | .ref a, [] => ∃ xs, m a = some (.lst xs) ∧ R .non (sup m a (.lst xs.reverse))
  | _, _ => False
def wIndex : WM := fun d us m R => match us with
  | [y] => ∃ xs j z, asL m d = some xs ∧ flatD y = true ∧ xs.all flatD = true ∧ xs[j]? = some z ∧ eqD z y = true ∧ (∀ k z', k < j → xs[k]? = some z' → eqD z' y = false) ∧ R (.int (j : Nat)) m
  | _ => False
def wRemI : WM := fun d us m R => match d, us with
  | .ref a, [.int k] => ∃ (ns : List Int) (j : Nat), m a = some (.lst (ns.map .int)) ∧ ns[j]? = some k ∧ (∀ i : Nat, i < j → ns[i]? ≠ some k) ∧ R .non (sup m a (.lst ((ns.eraseIdx j).map .int)))
  | _, _ => False
def upC (c : Nat) : Nat := if 97 ≤ c ∧ c ≤ 122 then c - 32 else c
def loC (c : Nat) : Nat := if 65 ≤ c ∧ c ≤ 90 then c + 32 else c
def wUpper : WM := fun d us m R => match d, us with
  | .str s, [] => ∃ c, s = ⟨#[c]⟩ ∧ c < 128 ∧ R (.str ⟨#[upC c]⟩) m
  | _, _ => False
def wLower : WM := fun d us m R => match d, us with
  | .str s, [] => ∃ c, s = ⟨#[c]⟩ ∧ c < 128 ∧ R (.str ⟨#[loC c]⟩) m
  | _, _ => False
def wSIndex : WM := fun d us m R => match d, us with
  | .str s, [.str t] => ∃ c i, t = ⟨#[c]⟩ ∧ s.cps.toList[i]? = some c ∧ (∀ j, j < i → s.cps.toList[j]? ≠ some c) ∧ R (.int (i : Nat)) m
  | _, _ => False
def wJoin : WM := fun d us m R => match d, us with
  | .str s, [y] => ∃ ys : List Str, asQ m y = some (ys.map .str) ∧ (ys.map (·.length)).sum + ys.length * s.length ≤ LIM ∧ R (.str (Str.join s ys)) m
  | _, _ => False
def keyD : D → Option DKey
  | .int i => some (.inl i)
  | .str s => some (.inr s)
  | _ => none
def lookK : List (DKey × D) → DKey → Option D
  | [], _ => none
  | (g, d) :: r, k => if g = k then some d else lookK r k
def putKD (k : DKey) (d : D) (kvs : List (DKey × D)) : List (DKey × D) :=
  if (kvs.any fun kv => decide (kv.1 = k)) = true then kvs.map (fun kv => if kv.1 = k then (kv.1, d) else kv) else kvs ++ [(k, d)]
def mergeD (kvs more : List (DKey × D)) : List (DKey × D) := more.foldl (fun acc kv => putKD kv.1 kv.2 acc) kvs
def wPairs : List (WE × WE) → Env → Store → (List (D × D) → Store → Prop) → XD → Prop
  | [], _, m, K, _ => K [] m
  | (a, b) :: t, r, m, K, x => a r m (fun u m1 => b r m1 (fun v m2 => wPairs t r m2 (fun ps m3 => K ((u, v) :: ps) m3) x) x) x
def keysD : List (D × D) → Option (List (DKey × D))
  | [] => some []
  | (u, v) :: t => match keyD u, keysD t with | some k, some ks => some ((k, v) :: ks) | _, _ => none
def wDisp (ps : List (WE × WE)) : WE := fun r m R x => wPairs ps r m (fun us m1 => us.length ≤ 15 ∧ ok (keysD us) fun kvs => ∀ a, m1 a = none → R (.ref a) (sup m1 a (.dct (mergeD [] kvs)))) x
def wDPut (d k v : WE) : WS := fun r m c => v r m (fun y m1 => d r m1 (fun u m2 => k r m2 (fun q m3 => match u with
  | .ref a => ∃ kvs, m3 a = some (.dct kvs) ∧ kvs.length < LIM ∧ ok (keyD q) fun q => c.nx r (sup m3 a (.dct (putKD q y kvs)))
  | _ => False) c.ex) c.ex) c.ex
def wDGet2 (d k z : WE) : WE := fun r m R x => d r m (fun u m1 => (match u with | .ref a => ∃ kvs, m1 a = some (.dct kvs) | _ => False) ∧ k r m1 (fun q m2 => z r m2 (fun y m3 => match u with
  | .ref a => ∃ kvs, m3 a = some (.dct kvs) ∧ ok (keyD q) fun q => R ((lookK kvs q).getD y) m3
  | _ => False) x) x) x
def wUpdate : WM := fun d us m R => match d, us with
  | .ref a, [.ref b] => ∃ kvs more, a ≠ b ∧ m a = some (.dct kvs) ∧ m b = some (.dct more) ∧ kvs.length + more.length ≤ LIM ∧ R .non (sup m a (.dct (mergeD kvs more)))
  | _, _ => False
def wCount : WM := fun d us m R => match us with
  | [y] => ∃ xs, asL m d = some xs ∧ flatD y = true ∧ xs.all flatD = true ∧ R (.int ((xs.countP fun z => eqD z y : Nat) : Int)) m
  | _ => False
def wDGet : W2 := fun d k m R => match d with
  | .ref a => ∃ kvs, m a = some (.dct kvs) ∧ ok (keyD k) fun q => ok (lookK kvs q) fun v => R v m
  | _ => False
def wFgt (a : WE) : WE := fun r m R x => a r m (fun u m1 => ∃ m2, Sub m2 m1 ∧ R u m2) x
def wDispGet (ps : List (WE × WE)) (k : WE) : WE := fun r m R x => wPairs ps r m (fun us m1 => us.length ≤ 15 ∧ ok (keysD us) fun kvs => k r m1 (fun q m2 => ok (keyD q) fun q => ok (lookK (mergeD [] kvs) q) fun v => R v m2) x) x
def wDispGet2 (ps : List (WE × WE)) (k z : WE) : WE := fun r m R x => wPairs ps r m (fun us m1 => us.length ≤ 15 ∧ ok (keysD us) fun kvs => k r m1 (fun q m2 => z r m2 (fun y m3 => ok (keyD q) fun q => R ((lookK (mergeD [] kvs) q).getD y) m3) x) x) x
end DL
end
section
set_option maxHeartbeats 0
namespace DL
open PySem PySem.Spec PyProof.Rows L2
section
variable {X : Cx} {W : WX} {a b c o e : Expr} {fa fb fc : WE} {pos p apos : Pos} {es : List Expr} {ga : WA} {K : PySem.W.Frag} {B H : Hp} {m : Store}
theorem len_ : CallD X (.builtin "len") wLen := by
  refine ⟨_, call_len, fun B us ds p H m R Q S h t => ?_⟩
  cases p with
  | nil => exact h.elim
  | cons p ps => cases ps with
    | cons _ _ => exfalso; cases p <;> exact h
    | nil =>
      rename_i v d
      have seq : (ok (asQ m d) fun xs => R (.int (xs.length : Nat)) m) → ∃ x n, [v] = [x] ∧ LenV X.K x H n ∧ Q (.int n) H := fun h => by
        obtain ⟨xs, h1, h2⟩ := ok_iff.mp h
        obtain ⟨a, vs, rfl, hq, pa⟩ := seqQ S p h1
        refine ⟨.ref a, vs.length, rfl, ?_, by rw [pa.length]; exact eff_ret S t (.int _) h2⟩
        rcases hq with hq | hq
        · exact .inl ⟨vs, hq, rfl⟩
        · exact .inr ⟨vs, hq, rfl⟩
      cases p with
      | str s => exact ⟨.str s, s.length, rfl, ⟨by rw [← LIM_eq]; exact h.1, rfl⟩, eff_ret S t (.int _) h.2⟩
      | _ => exact seq h
theorem tyN_ok {v : V} {d : D} {n : String} (S : SRp K B H m) (p : Dp K B v d) (h : tyN m d = some n) : TyX K H v (.type n) := by
  cases p with
  | non => cases h; exact .base .non
  | bl b => cases h; exact .base (.bl b)
  | int b => cases h; exact .base (.int b)
  | str b => cases h; exact .base (.str b)
  | tup h1 h2 =>
    cases h
    rcases sqT_mono S.same h1 with (z | ⟨o, z⟩) | ⟨o, its, k, z1, z2, _⟩
    · exact .base (.tup z)
    · exact .fTuple z
    · exact .kTuple z1 z2
  | lst h1 h2 => cases h; exact .base (.lst (S.same _ _ h1))
  | ref a =>
    simp only [tyN] at h
    cases q : m a with
    | none => rw [q] at h; cases h
    | some mo => rw [q] at h; cases mo with
      | lst xs => cases h; obtain ⟨vs, e, _⟩ := S.list q; exact .base (.lst e)
      | dct xs => cases h; obtain ⟨vs, e, _⟩ := S.dct q; exact .base (.dK e)
      | ins => cases h
      | dnt => cases h
  | _ => cases h
theorem isiN_ok : ∀ a ∈ ["NoneType", "bool", "int", "str", "tuple", "list", "dict"], ∀ b ∈ ["int", "bool", "str", "tuple", "list"], kitB a b = some (isiN a b) := by decide +kernel
theorem tyN_mem {d : D} {n : String} (h : tyN m d = some n) : n ∈ ["NoneType", "bool", "int", "str", "tuple", "list", "dict"] := by
  cases d with
  | ref a =>
    simp only [tyN] at h
    cases q : m a with
    | none => rw [q] at h; cases h
    | some mo => rw [q] at h; cases mo <;> cases h <;> decide
  | _ => first | (cases h; decide) | cases h
theorem isi_ : CallD X (.builtin "isinstance") wIsi := by
  refine ⟨_, call_isi, fun B us ds p H m R Q S h t => ?_⟩
  cases p with
  | nil => exact h.elim
  | cons p ps => cases ps with
    | nil => exact h.elim
    | cons q qs => cases qs with
      | cons _ _ => exfalso; cases q <;> exact h
      | nil => cases q with
        | ty T =>
          obtain ⟨hT, h⟩ := h
          obtain ⟨n, h1, h2⟩ := ok_iff.mp h
          exact ⟨_, _, _, _, _, rfl, .ty T, tyN_ok S p h1, kit_ty (isiN_ok n (tyN_mem h1) T hT), eff_ret S t (.bl _) h2⟩
        | _ => exact h.elim
theorem bls_dp : ∀ {vs : List V} {bs : List Bool}, DpAll K B vs (bs.map .bl) → vs = bs.map V.bl
  | [], [], _ => rfl
  | v :: vs, b :: bs, h => by cases h with | cons h1 h2 => cases h1; rw [bls_dp h2]; rfl
  | [], b :: bs, h => by cases h
  | v :: vs, [], h => by cases h
theorem ints_dp : ∀ {vs : List V} {bs : List Int}, DpAll K B vs (bs.map .int) → vs = bs.map V.int
  | [], [], _ => rfl
  | v :: vs, b :: bs, h => by cases h with | cons h1 h2 => cases h1; rw [ints_dp h2]; rfl
  | [], b :: bs, h => by cases h
  | v :: vs, [], h => by cases h
theorem strs_dp : ∀ {vs : List V} {bs : List Str}, DpAll K B vs (bs.map .str) → vs = bs.map V.str
  | [], [], _ => rfl
  | v :: vs, b :: bs, h => by cases h with | cons h1 h2 => cases h1; rw [strs_dp h2]; rfl
  | [], b :: bs, h => by cases h
  | v :: vs, [], h => by cases h
theorem dp_ints : ∀ (ns : List Int), DpAll K B (ns.map V.int) (ns.map .int)
  | [] => .nil
  | n :: ns => .cons (.int n) (dp_ints ns)
theorem one_arg {us : List V} {ds : List D} {d : D} (p : DpAll K B us ds) (e : ds = [d]) : ∃ v, us = [v] ∧ Dp K B v d := by
  subst e
  cases p with
  | cons p ps => cases ps; exact ⟨_, rfl, p⟩
theorem all_ (hc : X.calm = true) : CallD X (.builtin "all") wAll := by
  refine ⟨_, cr_all hc, fun B us ds p H m R Q S h t => ?_⟩
  match ds, h with
  | [d], h =>
    obtain ⟨v, rfl, p1⟩ := one_arg p rfl
    obtain ⟨bs, h1, h2⟩ := h
    obtain ⟨a, vs, rfl, ha, pa⟩ := seqL S p1 h1
    rw [bls_dp pa] at ha
    exact ⟨a, bs, rfl, .inl (.inl ha), eff_ret S t (.bl _) h2⟩
theorem any_ (hc : X.calm = true) : CallD X (.builtin "any") wAny := by
  refine ⟨_, cr_any hc, fun B us ds p H m R Q S h t => ?_⟩
  match ds, h with
  | [d], h =>
    obtain ⟨v, rfl, p1⟩ := one_arg p rfl
    obtain ⟨bs, h1, h2⟩ := h
    obtain ⟨a, vs, rfl, ha, pa⟩ := seqL S p1 h1
    rw [bls_dp pa] at ha
    exact ⟨a, bs, rfl, .inl (.inl ha), eff_ret S t (.bl _) h2⟩
theorem sum_ (hc : X.calm = true) : CallD X (.builtin "sum") wSum := by
  refine ⟨_, cr_sum hc, fun B us ds p H m R Q S h t => ?_⟩
  match ds, h with
  | [d], h =>
    obtain ⟨v, rfl, p1⟩ := one_arg p rfl
    obtain ⟨bs, h1, h2⟩ := h
    obtain ⟨a, vs, rfl, ha, pa⟩ := seqL S p1 h1
    rw [ints_dp pa] at ha
    exact ⟨a, bs, rfl, .inl (.inl ha), eff_ret S t (.int _) h2⟩
theorem minL_ (hc : X.calm = true) : CallD X (.builtin "min") wMinL := by
  refine ⟨_, cr_min hc, fun B us ds p H m R Q S h t => ?_⟩
  match ds, h with
  | [d], h =>
    obtain ⟨v, rfl, p1⟩ := one_arg p rfl
    obtain ⟨bs, h1, h2, h3⟩ := h
    obtain ⟨a, vs, rfl, ha, pa⟩ := seqL S p1 h1
    rw [ints_dp pa] at ha
    exact ⟨a, bs, rfl, .inl (.inl ha), h2, fun z z1 z2 => eff_ret S t (.int _) (h3 z z1 z2)⟩
theorem maxL_ (hc : X.calm = true) : CallD X (.builtin "max") wMaxL := by
  refine ⟨_, cr_max hc, fun B us ds p H m R Q S h t => ?_⟩
  match ds, h with
  | [d], h =>
    obtain ⟨v, rfl, p1⟩ := one_arg p rfl
    obtain ⟨bs, h1, h2, h3⟩ := h
    obtain ⟨a, vs, rfl, ha, pa⟩ := seqL S p1 h1
    rw [ints_dp pa] at ha
    exact ⟨a, bs, rfl, .inl (.inl ha), h2, fun z z1 z2 => eff_ret S t (.int _) (h3 z z1 z2)⟩
theorem sortI_ {b : Bool} : CallD X (.builtin "sorted") (wSortI b) := by
  refine ⟨_, cr_sortedI, fun B us ds p H m R Q S h t => ?_⟩
  match ds, h with
  | [d], h =>
    obtain ⟨v, rfl, p1⟩ := one_arg p rfl
    obtain ⟨bs, h1, h2⟩ := h
    obtain ⟨a, vs, rfl, ha, pa⟩ := seqL S p1 h1
    rw [ints_dp pa] at ha
    exact ⟨a, bs, rfl, .inl (.inl ha), fun ns' q z1 z2 nq => eff_nw S t (dp_ints ns') (h2 ns' z1 z2) q nq⟩
theorem tuple_ : CallD X (.type "tuple") wTuple := by
  refine ⟨_, call_tuple_of, fun B us ds p H m R Q S h t => ?_⟩
  match ds, h with
  | [d], h =>
    obtain ⟨v, rfl, p1⟩ := one_arg p rfl
    obtain ⟨xs, h1, h2⟩ := ok_iff.mp h
    cases d with
    | tup ys =>
      cases h1
      cases p1 with
      | tup q1 q2 => exact ⟨_, _, rfl, .inr ⟨sqT_mono S.same q1, eff_ret S t (.tup q1 q2) h2⟩⟩
    | lst ys => obtain ⟨a, vs, rfl, ha, pa⟩ := seqL S p1 h1; exact ⟨a, vs, rfl, .inl ⟨.inl (.inl ha), eff_tup S t pa h2⟩⟩
    | ref ys => obtain ⟨a, vs, rfl, ha, pa⟩ := seqL S p1 h1; exact ⟨a, vs, rfl, .inl ⟨.inl (.inl ha), eff_tup S t pa h2⟩⟩
    | scr ys =>
      cases h1
      cases p1 with
      | scr q1 => exact ⟨_, _, rfl, .inl ⟨S.same.seq q1, eff_tup S t (scr_dp ys) h2⟩⟩
    | _ => cases h1
theorem list_ {b : Bool} : CallD X (.type "list") (wList b) := by
  refine ⟨_, call_list_of, fun B us ds p H m R Q S h t => ?_⟩
  match ds, h with
  | [d], h =>
    obtain ⟨v, rfl, p1⟩ := one_arg p rfl
    obtain ⟨xs, h1, h2⟩ := ok_iff.mp h
    obtain ⟨a, vs, rfl, hq, pa⟩ := seqQ S p1 h1
    exact ⟨a, vs, rfl, hq, eff_nw S t pa h2⟩
theorem int_ : CallD X (.type "int") wInt := by
  refine ⟨_, call_int1, fun B us ds p H m R Q S h t => ?_⟩
  match ds, h with
  | [.int i], h =>
    obtain ⟨v, rfl, p1⟩ := one_arg p rfl
    cases p1
    exact .inl ⟨i, rfl, eff_ret S t (.int _) h⟩
  | [.bl i], h =>
    obtain ⟨v, rfl, p1⟩ := one_arg p rfl
    cases p1
    exact .inr ⟨i, rfl, eff_ret S t (.int _) h⟩
theorem abs_ : CallD X (.builtin "abs") wAbs := by
  refine ⟨_, call_abs, fun B us ds p H m R Q S h t => ?_⟩
  match ds, h with
  | [.int i], h =>
    obtain ⟨v, rfl, p1⟩ := one_arg p rfl
    cases p1
    exact ⟨i, rfl, eff_ret S t (.int _) h⟩
theorem two_arg {us : List V} {ds : List D} {d e : D} (p : DpAll K B us ds) (h : ds = [d, e]) : ∃ v u, us = [v, u] ∧ Dp K B v d ∧ Dp K B u e := by
  subst h
  cases p with
  | cons p ps => cases ps with
    | cons q qs => cases qs; exact ⟨_, _, rfl, p, q⟩
theorem max2_ (hc : X.calm = true) : CallD X (.builtin "max") wMax2 := by
  refine ⟨_, call_max2 hc, fun B us ds p H m R Q S h t => ?_⟩
  match ds, h with
  | [.int i, .int j], h =>
    obtain ⟨v, u, rfl, p1, q1⟩ := two_arg p rfl
    cases p1; cases q1
    exact ⟨i, j, rfl, eff_ret S t (.int _) h⟩
theorem min2_ (hc : X.calm = true) : CallD X (.builtin "min") wMin2 := by
  refine ⟨_, call_min2 hc, fun B us ds p H m R Q S h t => ?_⟩
  match ds, h with
  | [.int i, .int j], h =>
    obtain ⟨v, u, rfl, p1, q1⟩ := two_arg p rfl
    cases p1; cases q1
    exact ⟨i, j, rfl, eff_ret S t (.int _) h⟩
def MtD (X : Cx) (id : String) (w : WM) : Prop := ∃ r, MtR X id r ∧ ∀ B u d us ds, Dp X.K B u d → DpAll X.K B us ds → Eff X.K B (fun H Q => r u us H Q) (w d ds)
theorem tyM_ok {T : String} {v : V} {d : D} (S : SRp K B H m) (p : Dp K B v d) (h : tyM T m d) : tyV K T v H := by
  cases p with
  | str s => exact h
  | lst h1 h2 => exact .inl ⟨h, _, .inl (.inl (S.same _ _ h1))⟩
  | ref a =>
    simp only [tyM] at h
    cases q : m a with
    | none => rw [q] at h; exact h.elim
    | some mo => rw [q] at h; cases mo with
      | lst xs => obtain ⟨vs, e, _⟩ := S.list q; exact .inl ⟨h, _, .inl (.inl e)⟩
      | dct xs => obtain ⟨vs, e, _⟩ := S.dct q; exact .inr (.inr (.inl ⟨h, .inl ⟨_, e⟩⟩))
      | ins => exact h.elim
      | dnt => exact h.elim
  | _ => exact h.elim
theorem pd_mt {T id : String} {name : Str} {w : WM} {cpos : Pos} (pa : PlainAttrs T) (slot : PySem.Slot T name id) (hty : typeOf (.builtin id) = pure (.type "method_descriptor")) (hm : MtD X id w) (ho : PE X o (up X.K W fa)) (ha : PA X (e :: es) (upA X.K W ga))
    (hbase : attributeBase o name X.env (eval o X.env) = eval o X.env := by rfl)
    (hfew : ((backTo cpos (starEach (e :: es) X.env)).all (fun x => !x.1) && (backToKw cpos (keywordEach [] X.env)).all (fun x => x.1.isSome)
      && decide ((e :: es).length + ([] : List Keyword).length + (if ([] : List Keyword).isEmpty then 0 else 1) < 30)) = true := by rfl)
    (hline : (apos.endLine == cpos.line) = true := by rfl) (hs : starEach (e :: es) X.env = (false, eval e X.env) :: starEach es X.env := by rfl) (hplain : (backTo cpos (starEach es X.env)).any (·.1) = false := by rfl) :
    PE X (.Call (.Attribute o name apos) (e :: es) [] cpos) (up X.K W (wMt T w fa ga)) := by
  obtain ⟨r, h1, h2⟩ := hm
  refine PE.imp (pe_bm pa slot hty h1 ho ha hbase hfew hline hs hplain) fun σ H Q h => ?_
  obtain ⟨B, ρ, m, R, x, er, S, h, t, tx⟩ := h
  refine ⟨B, ρ, m, _, x, er, S, h, fun B1 d m1 u H1 s1 S1 f1 p1 q1 => ⟨tyM_ok S1 p1 q1.1, ?_⟩, tx⟩
  refine ⟨B1, ρ, m1, _, x, er.mono s1, S1, q1.2, fun B2 ds m2 vs H2 s2 S2 f2 p2 q2 => ?_, tx.step s1 f1⟩
  exact h2 B2 u d vs ds (p1.mono s2) p2 H2 m2 R Q S2 q2 (t.step (s1.trans s2) (f1.trans f2))
theorem pd_mt0 {T id : String} {name : Str} {w : WM} {cpos : Pos} (pa : PlainAttrs T) (slot : PySem.Slot T name id) (hty : typeOf (.builtin id) = pure (.type "method_descriptor")) (hm : MtD X id w) (ho : PE X o (up X.K W fa))
    (hbase : attributeBase o name X.env (eval o X.env) = eval o X.env := by rfl) (hline : (apos.endLine == cpos.line) = true := by rfl) :
    PE X (.Call (.Attribute o name apos) [] [] cpos) (up X.K W (wMt T w fa wNil)) := by
  obtain ⟨r, h1, h2⟩ := hm
  refine PE.imp (pe_bm0 pa slot hty h1 ho hbase hline) fun σ H Q h => ?_
  obtain ⟨B, ρ, m, R, x, er, S, h, t, tx⟩ := h
  refine ⟨B, ρ, m, _, x, er, S, h, fun B1 d m1 u H1 s1 S1 f1 p1 q1 => ⟨tyM_ok S1 p1 q1.1, ?_⟩, tx⟩
  exact h2 B1 u d [] [] p1 .nil H1 m1 R Q S1 q1.2 (t.step s1 f1)
theorem eff_put {R : KD} {Q : VK} {p : Addr} {vs : List V} {ds ds0 : List D} {v : V} {d : D} (S : SRp K B H m) (t : Thn K B H m R Q) (hp : m p = some (.lst ds0)) (r : DpAll K B vs ds) (pv : Dp K B v d) (q : R d (sup m p (.lst ds))) : Q v (upd H p (.lst vs)) := by
  obtain ⟨S1, f1⟩ := S.put (ho := .lst vs) (mo := .lst ds) hp r
  exact t B d _ v _ (Same.refl B) S1 f1 pv q
theorem append_ : MtD X "list.append" wAppend := by
  refine ⟨_, mt_append, fun B u d us ds p ps H m R Q S h t => ?_⟩
  match d, ds, h with
  | .ref a, [y], h =>
    obtain ⟨v, rfl, q⟩ := one_arg ps rfl
    cases p
    obtain ⟨xs, h1, h2, h3⟩ := h
    obtain ⟨vs, e, r⟩ := S.list h1
    exact ⟨a, vs, v, rfl, rfl, e, by rw [← LIM_eq, r.length]; exact h2, eff_put S t h1 (r.append (.cons q .nil)) .non h3⟩
theorem extend_ : MtD X "list.extend" wExtend := by
  refine ⟨_, mt_extend, fun B u d us ds p ps H m R Q S h t => ?_⟩
  match d, ds, h with
  | .ref a, [y], h =>
    obtain ⟨v, rfl, q⟩ := one_arg ps rfl
    cases p
    obtain ⟨xs, ys, h1, h2, h3, h4⟩ := h
    obtain ⟨vs, e, r⟩ := S.list h1
    obtain ⟨b, ws, rfl, hb, pb⟩ := seqL S q h2
    exact ⟨a, b, vs, ws, rfl, rfl, e, hb, by rw [← LIM_eq, r.length, pb.length]; exact h3, eff_put S t h1 (r.append pb) .non h4⟩
theorem popAt_ : MtD X "list.pop" wPopAt := by
  refine ⟨_, mt_popAt, fun B u d us ds p ps H m R Q S h t => ?_⟩
  match d, ds, h with
  | .ref a, [.int i], h =>
    obtain ⟨v, rfl, q⟩ := one_arg ps rfl
    cases p
    cases q
    obtain ⟨xs, h1, h2, h3, h4⟩ := h
    obtain ⟨y, h5, h6⟩ := ok_iff.mp h4
    obtain ⟨vs, e, r⟩ := S.list h1
    obtain ⟨w, e1, pw⟩ := r.get h5
    have hlt : i.toNat < vs.length := (List.getElem?_eq_some_iff.mp e1).1
    have hix : seqIndex? i vs.length = some i.toNat := (ixN_seq (by unfold ixN; rw [if_pos h2, if_pos (by omega)])).1
    exact ⟨a, vs, i, i.toNat, w, rfl, rfl, e, by omega, by omega, hix, e1, eff_put S t h1 (r.erase _) pw h6⟩
theorem reverse_ : MtD X "list.reverse" wReverse := by
  refine ⟨_, mt_reverse, fun B u d us ds p ps H m R Q S h t => ?_⟩
  match d, ds, h with
  | .ref a, [], h =>
    cases ps
    cases p
    obtain ⟨xs, h1, h2⟩ := h
    obtain ⟨vs, e, r⟩ := S.list h1
    exact ⟨a, vs, rfl, rfl, e, eff_put S t h1 r.reverse .non h2⟩
theorem remI_ : MtD X "list.remove" wRemI := by
  refine ⟨_, mt_remove, fun B u d us ds p ps H m R Q S h t => ?_⟩
  match d, ds, h with
  | .ref a, [.int k], h =>
    obtain ⟨v, rfl, q⟩ := one_arg ps rfl
    cases p
    cases q
    obtain ⟨ns, j, h1, h2, h3, h4⟩ := h
    obtain ⟨vs, e, r⟩ := S.list h1
    rw [ints_dp r] at e
    exact ⟨a, ns, k, j, rfl, rfl, e, h2, h3, eff_put S t h1 (dp_ints _) .non h4⟩
theorem index_ : MtD X "list.index" wIndex := by
  refine ⟨_, mt_index, fun B u d us ds p ps H m R Q S h t => ?_⟩
  match ds, h with
  | [y], h =>
    obtain ⟨v, rfl, q⟩ := one_arg ps rfl
    obtain ⟨xs, j, z, h1, h2, h3, h4, h5, h6, h7⟩ := h
    obtain ⟨a, vs, rfl, ha, pa⟩ := seqL S p h1
    obtain ⟨w, e1, pw⟩ := pa.get h4
    have fz : flatD z = true := List.all_eq_true.mp h3 z (List.mem_of_getElem? h4)
    refine ⟨a, vs, v, j, w, rfl, rfl, .inl (.inl ha), flat_D q h2, flats_D pa h3, e1, by rw [eqV_D pw q fz h2]; exact h5, fun k z' hk e2 => ?_, eff_ret S t (.int _) h7⟩
    have hk' : k < xs.length := by
      have := (List.getElem?_eq_some_iff.mp h4).1
      omega
    obtain ⟨w', e3, pw'⟩ := pa.get (List.getElem?_eq_getElem hk')
    rw [e2] at e3
    cases e3
    rw [eqV_D pw' q (List.all_eq_true.mp h3 _ (List.getElem_mem hk')) h2]
    exact h6 k _ hk (List.getElem?_eq_getElem hk')
theorem upper1 : ∀ c < 128, Txt.upper ⟨#[c]⟩ = ⟨#[upC c]⟩ := by decide +kernel
theorem lower1 : ∀ c < 128, Txt.lower ⟨#[c]⟩ = ⟨#[loC c]⟩ := by decide +kernel
theorem upper_ : MtD X "str.upper" wUpper := by
  refine ⟨_, mt_upper, fun B u d us ds p ps H m R Q S h t => ?_⟩
  match d, ds, h with
  | .str s, [], h =>
    cases ps
    cases p
    obtain ⟨c, rfl, h1, h2⟩ := h
    exact ⟨_, rfl, rfl, by show (1 : Nat) ≤ 5592405; decide, by rw [upper1 c h1]; exact eff_ret S t (.str _) h2⟩
theorem lower_ : MtD X "str.lower" wLower := by
  refine ⟨_, mt_lower, fun B u d us ds p ps H m R Q S h t => ?_⟩
  match d, ds, h with
  | .str s, [], h =>
    cases ps
    cases p
    obtain ⟨c, rfl, h1, h2⟩ := h
    exact ⟨_, rfl, rfl, by show (1 : Nat) ≤ 5592405; decide, by rw [lower1 c h1]; exact eff_ret S t (.str _) h2⟩
theorem join_ : MtD X "str.join" wJoin := by
  refine ⟨_, mt_join, fun B u d us ds p ps H m R Q S h t => ?_⟩
  match d, ds, h with
  | .str s, [y], h =>
    obtain ⟨v, rfl, q⟩ := one_arg ps rfl
    cases p
    obtain ⟨ys, h1, h2, h3⟩ := h
    obtain ⟨a, vs, rfl, hq, pa⟩ := seqQ S q h1
    rw [strs_dp pa] at hq
    exact ⟨s, a, ys, rfl, rfl, hq, h2, by rw [TL.join_eq]; exact eff_ret S t (.str _) h3⟩
end
end DL
end
section
set_option maxHeartbeats 0
namespace DL
open PySem PySem.Spec PyProof.Rows L2
section
variable {X : Cx} {W : WX} {a b c o e : Expr} {fa fb fc : WE} {pos p apos cpos : Pos} {es : List Expr} {ga : WA} {K : PySem.W.Frag} {B H : Hp} {m : Store}
structure ExF (K : PySem.W.Frag) (mg : Str → Option Value) (x : Str) (C : Addr) : Prop where
  g : mg x = some (.ref C)
  q : PySem.W.excIn K C [.type "ValueError", .type "Exception", .type "BaseException", .type "object"] "ValueError.__new__" = true
  k : PySem.W.keepIn K (.ref C) = true
  b : PySem.W.subIn K (.ref C) (.type "BaseException") = some true
  t : PySem.W.typeIn K (.ref C) = some (.type "type")
theorem psd_raise {x s : Str} {C : Addr} {j : Nat} {p2 p3 : Pos} (hc : X.calm = true) (tk : L2N.Takes X W) (F : ExF X.K X.mg x C) (hg : Gl X x) (hdb : (x == ("__debug__" : Str)) = false := by decide) :
    PS X (.Raise (some (.Call (.Name x p) [.Constant (.str s) j p2] [] p3)) none pos) (upS X.K W (wRaise C)) := PS.imp (L2N.ps_raise hc tk (L2N.pmk_own PySem.F.excBase_ValueError F.q F.g F.k (raises_own F.b F.t) hg hdb)) fun E σ H ⟨B, r, m, k, er, S, h, t⟩ =>
  t.ex B σ r C m H (Same.refl B) S Frm.refl er h
theorem KRel.val {gs : List (Key × V)} {kvs : List (DKey × D)} {k : Key} : KRel K B gs kvs → (lookK kvs k = none → valV gs k = none) ∧ ∀ d, lookK kvs k = some d → ∃ v, valV gs k = some v ∧ Dp K B v d := by
  intro h
  unfold KRel at h
  induction h with
  | nil => exact ⟨fun _ => rfl, fun d h => nomatch h⟩
  | cons h t ih =>
    rename_i p q gs kvs
    obtain ⟨e, pd⟩ := h
    obtain ⟨g, v⟩ := p
    obtain ⟨g', d⟩ := q
    have e : g = g' := e
    subst e
    by_cases hf : g = k
    · rw [valV_pos (p := (g, v)) hf]
      refine ⟨fun z => ?_, fun d' z => ?_⟩
      · unfold lookK at z; rw [if_pos hf] at z; cases z
      · unfold lookK at z; rw [if_pos hf] at z; cases z; exact ⟨v, rfl, pd⟩
    · rw [valV_neg (p := (g, v)) hf]
      refine ⟨fun z => ?_, fun d' z => ?_⟩
      · unfold lookK at z; rw [if_neg hf] at z; exact ih.1 z
      · unfold lookK at z; rw [if_neg hf] at z; exact ih.2 d' z
theorem KRel.any {gs : List (Key × V)} {kvs : List (DKey × D)} {k : Key} (h : KRel K B gs kvs) : (gs.any fun kv => decide (kv.1 = k)) = (kvs.any fun kv => decide (kv.1 = k)) := by
  unfold KRel at h
  induction h with
  | nil => rfl
  | cons h t ih => rw [List.any_cons, List.any_cons, ih, h.1]
theorem KRel.repl {k : Key} {v : V} {d : D} (p : Dp K B v d) : ∀ {gs : List (Key × V)} {kvs : List (DKey × D)}, KRel K B gs kvs → KRel K B (gs.map fun kv => if kv.1 = k then (kv.1, v) else kv) (kvs.map fun kv => if kv.1 = k then (kv.1, d) else kv)
  | _, _, .nil => .nil
  | (g, v0) :: gs, (g', d0) :: kvs, .cons h t => by
    obtain ⟨e, h⟩ := h
    have e : g = g' := e
    subst e
    refine .cons ?_ (KRel.repl p t)
    show (if g = k then (g, v) else (g, v0)).1 = (if g = k then (g, d) else (g, d0)).1 ∧ Dp K B (if g = k then (g, v) else (g, v0)).2 (if g = k then (g, d) else (g, d0)).2
    split
    · exact ⟨rfl, p⟩
    · exact ⟨rfl, h⟩
theorem KRel.app : ∀ {gs gs' : List (Key × V)} {kvs kvs' : List (DKey × D)}, KRel K B gs kvs → KRel K B gs' kvs' → KRel K B (gs ++ gs') (kvs ++ kvs')
  | _, _, _, _, .nil, h' => h'
  | _, _, _, _, .cons h t, h' => .cons h (KRel.app t h')
theorem KRel.put {gs : List (Key × V)} {kvs : List (DKey × D)} {k : Key} {v : V} {d : D} (h : KRel K B gs kvs) (p : Dp K B v d) : KRel K B (putK gs k v) (putKD k d kvs) := by
  unfold putK putKD
  rw [h.any (k := k)]
  split
  · exact KRel.repl p h
  · exact KRel.app h (.cons ⟨rfl, p⟩ .nil)
theorem KRel.merge {gs more : List (Key × V)} {kvs mor : List (DKey × D)} (h : KRel K B gs kvs) (h' : KRel K B more mor) : KRel K B (mergeK gs more) (mergeD kvs mor) := by
  unfold mergeK mergeD
  unfold KRel at h'
  induction h' generalizing gs kvs with
  | nil => exact h
  | cons z t ih =>
    rename_i p q _ _
    rw [List.foldl_cons, List.foldl_cons]
    refine ih ?_
    rw [z.1]
    exact h.put z.2
theorem KRel.length {gs : List (Key × V)} {kvs : List (DKey × D)} (h : KRel K B gs kvs) : gs.length = kvs.length := Paired.length h
theorem keyD_v {v : V} {d : D} {k : DKey} (p : Dp K B v d) (h : keyD d = some k) : v = kV k := by
  cases p with
  | int i => cases h; rfl
  | str s => cases h; rfl
  | _ => cases h
theorem SRp.putD {gs : List (Key × V)} {kvs kvs0 : List (DKey × D)} {q : Addr} (S : SRp K B H m) (hq : m q = some (.dct kvs0)) (r : KRel K B gs kvs) : SRp K B (upd H q (.dK gs)) (sup m q (.dct kvs)) ∧ Frm B H m B (upd H q (.dK gs)) (sup m q (.dct kvs)) := S.put (ho := .dK gs) (mo := .dct kvs) hq r
theorem pd_dget (hu : X.A.units + 1 < cLine) (ho : PE X a (up X.K W fa)) (hi : PE X b (up X.K W fb)) (hs : NoSl b) : PE X (.Subscript a b pos) (up X.K W (wOp wDGet fa fb)) := PE.imp (pe_dget hu ho hi hs) fun σ H Q h => by
  refine two_up (r := fun x y H Q => ∃ a v, x = .ref a ∧ DGet H a y (some v) ∧ Q v H) (fun B u v d e p q H m R Q S h t => ?_) h
  cases p with
  | ref a =>
    obtain ⟨kvs, hk, h⟩ := h
    obtain ⟨k, h1, h⟩ := ok_iff.mp h
    obtain ⟨z, h2, h⟩ := ok_iff.mp h
    obtain ⟨gs, e1, rel⟩ := S.dct hk
    obtain ⟨w, e2, pw⟩ := (rel.val (k := k)).2 z h2
    have ev := keyD_v q h1
    subst ev
    refine ⟨a, w, rfl, ?_, eff_ret S t pw h⟩
    rw [← e2]
    exact DGet.k e1
  | _ => exact h.elim
theorem psd_dput {pos' : Pos} (hu : X.A.units + 1 < cLine) (ho : PE X a (up X.K W fa)) (hi : PE X b (up X.K W fb)) (hv : PE X c (up X.K W fc)) (hs : swapsWith c (some (.Subscript a b pos')) pos.line X.env = pure false := by rfl) :
    PS X (.Assign [.Subscript a b pos'] c pos) (upS X.K W (wDPut fa fb fc)) := PS.imp (ps_dput hu ho hi hv hs) fun E σ H ⟨B, r, m, k, er, S, h, t⟩ => by
  refine ⟨B, r, m, _, _, er, S, h, fun B1 d m1 u H1 s1 S1 f1 p1 q1 => ?_, t.x er⟩
  refine ⟨B1, r, m1, _, _, er.mono s1, S1, q1, fun B2 e m2 v H2 s2 S2 f2 p2 q2 => ?_, (t.x er).step s1 f1⟩
  refine ⟨B2, r, m2, _, _, er.mono (s1.trans s2), S2, q2, fun B3 g m3 y H3 s3 S3 f3 p3 q3 => ?_, (t.x er).step (s1.trans s2) (f1.trans f2)⟩
  cases e with
  | ref q =>
    obtain ⟨kvs, hk, hl, h⟩ := q3
    obtain ⟨kk, h1, h⟩ := ok_iff.mp h
    have eu : v = .ref q := by cases p2; rfl
    subst eu
    obtain ⟨gs, e1, rel⟩ := S3.dct hk
    have ev := keyD_v p3 h1
    subst ev
    obtain ⟨S4, f4⟩ := S3.putD hk (rel.put (k := kk) (p1.mono (s2.trans s3)))
    exact ⟨q, _, rfl, DPut.k e1 (by rw [← LIM_eq, rel.length]; exact hl), t.nx B3 σ r _ _ ((s1.trans s2).trans s3) S4 (((f1.trans f2).trans f3).trans f4) (er.mono ((s1.trans s2).trans s3)) h⟩
  | _ => exact q3.elim
theorem pd_dget2 (hu : X.A.units + 1 < cLine) (ho : PE X o (up X.K W fa)) (he : PE X e (up X.K W fb)) (hf : PE X a (up X.K W fc)) (mm : M2 X o "get" apos e a cpos) : PE X (.Call (.Attribute o "get" apos) [e, a] [] cpos) (up X.K W (wDGet2 fa fb fc)) := PE.imp (pe_dget2 hu ho he hf mm) fun σ H Q h => by
  obtain ⟨B, ρ, m, R, x, er, S, h, t, tx⟩ := h
  refine ⟨B, ρ, m, _, x, er, S, h, fun B1 d m1 u H1 s1 S1 f1 p1 q1 => ?_, tx⟩
  cases d with
  | ref q =>
    obtain ⟨⟨kvs, hk⟩, q1⟩ := q1
    have eu : u = .ref q := by cases p1; rfl
    subst eu
    obtain ⟨gs, e1, rel⟩ := S1.dct hk
    refine ⟨q, rfl, .inl ⟨gs, .inl e1⟩, B1, ρ, m1, _, x, er.mono s1, S1, q1, fun B2 e m2 v H2 s2 S2 f2 p2 q2 => ?_, tx.step s1 f1⟩
    refine ⟨B2, ρ, m2, _, x, er.mono (s1.trans s2), S2, q2, fun B3 g m3 y H3 s3 S3 f3 p3 q3 => ?_, tx.step (s1.trans s2) (f1.trans f2)⟩
    obtain ⟨kvs', hk', h⟩ := q3
    obtain ⟨kk, h1, h⟩ := ok_iff.mp h
    obtain ⟨gs', e1', rel'⟩ := S3.dct hk'
    have ev := keyD_v p2 h1
    subst ev
    refine ⟨_, DGet.k e1', ?_⟩
    cases q : lookK kvs' kk with
    | none =>
      rw [(rel'.val (k := kk)).1 q]
      rw [q] at h
      exact t B3 _ m3 _ H3 ((s1.trans s2).trans s3) S3 ((f1.trans f2).trans f3) p3 h
    | some z =>
      obtain ⟨w, e2, pw⟩ := (rel'.val (k := kk)).2 z q
      rw [e2]
      rw [q] at h
      exact t B3 _ m3 _ H3 ((s1.trans s2).trans s3) S3 ((f1.trans f2).trans f3) pw h
  | _ => exact q1.1.elim
structure PPd (X : Cx) (W : WX) (pos : Pos) (keys : List (Option Expr)) (values : List Expr) (ps : List (WE × WE)) : Prop where
  run : PPs X pos keys values (ps.map fun q => (up X.K W q.1, up X.K W q.2))
theorem ppd_nil : PPd X W pos [] [] [] := ⟨pps_nil⟩
theorem ppd_cons {ks : List (Option Expr)} {vs : List Expr} {ps : List (WE × WE)} (hk : PE X a (up X.K W fa)) (hv : PE X b (up X.K W fb)) (hr : PPd X W pos ks vs ps) : PPd X W pos (some a :: ks) (b :: vs) ((fa, fb) :: ps) := ⟨pps_cons hk hv hr.run⟩
theorem pairs_up {σ : L2.St} {r : Env} {x : XD} : ∀ (ps : List (WE × WE)) (B H : Hp) (m : Store) (Kd : List (D × D) → Store → Prop) (Q : List (V × V) → Hp → Prop), ERp X.K B σ r → SRp X.K B H m → wPairs ps r m Kd x → ThX X.K B H m x (fun C H' => W (.ref C) none σ H') →
    (∀ B' us m' vs H', Same B B' → SRp X.K B' H' m' → Frm B H m B' H' m' → Paired (fun (v : V × V) (u : D × D) => Dp X.K B' v.1 u.1 ∧ Dp X.K B' v.2 u.2) vs us → Kd us m' → Q vs H') → tPairs (ps.map fun q => (up X.K W q.1, up X.K W q.2)) σ H Q
  | [], B, H, m, Kd, Q, er, S, h, tx, q => q B [] m [] H (Same.refl B) S Frm.refl .nil h
  | (f, g) :: ps, B, H, m, Kd, Q, er, S, h, tx, q => by
    refine ⟨B, r, m, _, x, er, S, h, fun B1 d m1 u H1 s1 S1 f1 p1 q1 => ?_, tx⟩
    refine ⟨B1, r, m1, _, x, er.mono s1, S1, q1, fun B2 e m2 v H2 s2 S2 f2 p2 q2 => ?_, tx.step s1 f1⟩
    exact pairs_up ps B2 H2 m2 _ _ (er.mono (s1.trans s2)) S2 q2 (tx.step (s1.trans s2) (f1.trans f2)) fun B3 us m3 vs H3 s3 S3 f3 p3 q3 =>
      q B3 _ m3 _ H3 ((s1.trans s2).trans s3) S3 ((f1.trans f2).trans f3) (.cons ⟨p1.mono (s2.trans s3), p2.mono s3⟩ p3) q3
theorem keysD_v {vs : List (V × V)} {us : List (D × D)} (h : Paired (fun (v : V × V) (u : D × D) => Dp K B v.1 u.1 ∧ Dp K B v.2 u.2) vs us) : ∀ kvs, keysD us = some kvs → ∃ gs : List (Key × V), vs = gs.map (fun kv => (kV kv.1, kv.2)) ∧ KRel K B gs kvs := by
  induction h with
  | nil => intro kvs e; cases e; exact ⟨[], rfl, .nil⟩
  | cons h t ih =>
    rename_i v u vs us
    intro kvs e
    obtain ⟨v1, v2⟩ := v
    obtain ⟨u1, u2⟩ := u
    unfold keysD at e
    cases q1 : keyD u1 with
    | none => rw [q1] at e; cases e
    | some k => cases q2 : keysD us with
      | none => rw [q1, q2] at e; cases e
      | some ks =>
        rw [q1, q2] at e
        cases e
        obtain ⟨gs, e1, r1⟩ := ih ks q2
        have ev := keyD_v h.1 q1
        refine ⟨(k, v2) :: gs, ?_, .cons ⟨rfl, h.2⟩ r1⟩
        have ev : v1 = kV k := ev
        rw [e1, ev]; rfl
theorem pd_disp {keys : List (Option Expr)} {values : List Expr} {ps : List (WE × WE)} (h : PPd X W pos keys values ps) (hall : keys.all (·.isSome) = true) (hl : keys.length = values.length) (h0 : keys ≠ []) (h15 : keys.length ≤ 15) : PE X (.Dict keys values pos) (up X.K W (wDisp ps)) := PE.imp (pe_disp h.run hall hl h0 h15) fun σ H Q h => by
  obtain ⟨B, ρ, m, R, x, er, S, h, t, tx⟩ := h
  intro q nq
  obtain ⟨S1, f1⟩ := S.free (ho := .dK []) nq
  have hB : B q = none := by
    cases z : B q with
    | none => rfl
    | some o => rw [S.same _ _ z] at nq; cases nq
  have hm : m q = none := by
    cases z : m q with
    | none => rfl
    | some o => obtain ⟨_, ho', z1, _⟩ := S.obj _ _ z; rw [z1] at nq; cases nq
  refine pairs_up ps B _ m _ _ er S1 h (tx.step (Same.refl B) f1) fun B2 us m2 vs H2 s2 S2 f2 p2 q2 => ?_
  obtain ⟨hl2, q2⟩ := q2
  obtain ⟨kvs, h1, h2⟩ := ok_iff.mp q2
  obtain ⟨gs, e1, rel⟩ := keysD_v p2 kvs h1
  have hq : H2 q = some (.dK []) := f2.keep q _ upd_same hm
  have mq : m2 q = none := f2.out q _ upd_same hm
  have bq : B2 q = none := f2.bout q _ upd_same hm hB
  have hlen : gs.length ≤ 15 := by
    have := Paired.length p2
    rw [e1, List.length_map] at this
    omega
  refine ⟨hq, gs, e1, hlen, t B2 (.ref q) (sup m2 q (.dct (mergeD [] kvs))) (.ref q) _ s2 ⟨fun z o ez => ?_, fun z mo ez => ?_⟩ ⟨fun z ho ez nz => ?_, fun z ho ez nz => ?_, fun z ho ez nz bz => ?_⟩ (.ref q) (h2 q mq)⟩
  · rw [upd_ne (ne_of_none ez bq)]; exact S2.same _ _ ez
  · by_cases hz : z = q
    · subst hz
      rw [sup_same] at ez
      cases ez
      exact ⟨bq, _, upd_same, KRel.merge .nil rel⟩
    · rw [sup_ne hz] at ez
      obtain ⟨z1, ho, z2, z3⟩ := S2.obj z mo ez
      exact ⟨z1, ho, by rw [upd_ne hz]; exact z2, z3⟩
  · have nzq : z ≠ q := ne_of_none ez nq
    rw [upd_ne nzq]
    exact f2.keep z ho (by rw [upd_ne nzq]; exact ez) nz
  · have nzq : z ≠ q := ne_of_none ez nq
    rw [sup_ne nzq]
    exact f2.out z ho (by rw [upd_ne nzq]; exact ez) nz
  · have nzq : z ≠ q := ne_of_none ez nq
    exact f2.bout z ho (by rw [upd_ne nzq]; exact ez) nz bz
theorem mt_update : MtR X "dict.update" (fun x xs H Q => ∃ (a b : Addr) (kvs more : List (Key × V)), x = .ref a ∧ xs = [.ref b] ∧ a ≠ b ∧ H a = some (.dK kvs) ∧ H b = some (.dK more) ∧ kvs.length + more.length ≤ sizeLine ∧ Q .non (upd H a (.dK (mergeK kvs more)))) := by
  intro pins s σ H x xs v us Q I rx rxs h
  obtain ⟨a, b, kvs, more, rfl, rfl, nab, ha, hb, hz, q⟩ := h
  cases rx
  obtain ⟨u, rfl, ru⟩ := rxs.one
  cases ru
  obtain ⟨z1, hd1, vs, rel1, dd1⟩ := dk_of I.hok ha
  obtain ⟨z2, hd2, ws, rel2, dd2⟩ := dk_of I.hok hb
  refine call_meetsIn PySem.F.slot_dict_update dd1.typeIs PySem.F.entry_dict_update (PySem.F.args_dict_update_2 _ _) (meets_dict_update (mixKind X.prog X.w) a b nab hd2) ⟨vs, ws, dd1, dd2, by rw [← rel1.length, ← rel2.length]; exact hz, fun h' hd' hd2' hs => ?_⟩
  have hlen : (mergeK kvs more).length ≤ sizeLine := Nat.le_trans (length_mergeK more kvs) hz
  refine ⟨.non, _, d_write (t' := s.toks) I (by rw [ha]; exact True.intro) hs ?_ (dk_new hlen hd1 (rel2.merge rel1) hd'), rfl, q⟩
  obtain ⟨o, _, _, e, _⟩ := hd'
  exact ⟨o, e⟩
theorem update_ : MtD X "dict.update" wUpdate := by
  refine ⟨_, mt_update, fun B u d us ds p ps H m R Q S h t => ?_⟩
  match d, ds, h with
  | .ref a, [.ref b], h =>
    obtain ⟨v, rfl, q⟩ := one_arg ps rfl
    cases p
    cases q
    obtain ⟨kvs, more, nab, h1, h2, h3, h4⟩ := h
    obtain ⟨gs, e1, r1⟩ := S.dct h1
    obtain ⟨hs, e2, r2⟩ := S.dct h2
    obtain ⟨S1, f1⟩ := S.putD h1 (r1.merge r2)
    exact ⟨a, b, gs, hs, rfl, rfl, nab, e1, e2, by rw [← LIM_eq, r1.length, r2.length]; exact h3, t B _ _ _ _ (Same.refl B) S1 f1 .non h4⟩
theorem count_U {x : V} : ∀ {xs : List V} {us : List Value}, Vals xs us → xs.all flatV = true → us.countP (eqU x) = xs.countP fun y => eqV y x
  | _, _, .nil, _ => rfl
  | _, _, .cons r t, f => by
    rw [List.all_cons] at f
    have f' := Bool.and_eq_true_iff.mp f
    rw [List.countP_cons, List.countP_cons, eqU_of r f'.1, count_U t f'.2]
theorem mt_countF : MtR X "list.count" (fun x xs H Q => ∃ (p : Addr) (ys : List V) (y : V), x = .ref p ∧ xs = [y] ∧ SqL X.K H p ys ∧ flatV y = true ∧ ys.all flatV = true ∧ Q (.int ((ys.countP fun z => eqV z y : Nat) : Int)) H) := by
  intro pins s σ H x xs v us Q I rx rxs h
  obtain ⟨p, ys, y, rfl, rfl, hs, fy, fs, q⟩ := h
  cases rx
  obtain ⟨u, rfl, ru⟩ := rxs.one
  obtain ⟨its, rv, ⟨⟨cls, dd, data, sl⟩, n, ho, hc, hdn, hd⟩, hlen⟩ := I.list hs
  simp only at hc hd
  subst hc hd
  refine call_meets PySem.F.slot_list_count ⟨_, ho, rfl⟩ PySem.F.entry_list_count (PySem.F.args_list_count_2 _ _)
    (SeqAt.list_countAt p its.toArray n dd sl u (eqU y)) ⟨ho, fun z hz => mem_eqAt ru fy rv fs z (by simpa using hz), ?_⟩
  refine ⟨.int ((ys.countP fun z => eqV z y : Nat) : Int), H, I.tok _, ⟨s.toks, ?_⟩, q⟩
  show Value.int ((its.toArray.toList.countP (eqU y) : Nat) : Int) s.toks = _
  rw [show its.toArray.toList.countP (eqU y) = ys.countP fun z => eqV z y from count_U rv fs]
theorem countP_D {y : V} {d : D} (p : Dp K B y d) (f : flatD d = true) : ∀ {vs : List V} {ds : List D}, DpAll K B vs ds → ds.all flatD = true → (vs.countP fun z => eqV z y) = ds.countP fun z => eqD z d
  | _, _, .nil, _ => rfl
  | _, _, .cons h t, g => by
    rw [List.all_cons] at g
    have g' := Bool.and_eq_true_iff.mp g
    rw [List.countP_cons, List.countP_cons, eqV_D h p g'.1 f, countP_D p f t g'.2]
theorem count_ : MtD X "list.count" wCount := by
  refine ⟨_, mt_countF, fun B u d us ds p ps H m R Q S h t => ?_⟩
  match ds, h with
  | [y], h =>
    obtain ⟨v, rfl, q⟩ := one_arg ps rfl
    obtain ⟨xs, h1, h2, h3, h4⟩ := h
    obtain ⟨a, vs, rfl, ha, pa⟩ := seqL S p h1
    exact ⟨a, vs, v, rfl, rfl, .inl (.inl ha), flat_D q h2, flats_D pa h3, by rw [countP_D q h2 pa h3]; exact eff_ret S t (.int _) h4⟩
end
end DL
end
section
set_option maxHeartbeats 0
namespace DL
open PySem PySem.Spec PyProof.Rows L2 L2H
def FnW (P : Program) (w : World) (K : PySem.W.Frag) (mg : Str → Option Value) (base : Heap) (k : Nat) (f : Addr) (fd : FuncData) (Dc : Addr) (v : D) : Prop :=
  ∀ (A : Around) (outer : List PySem.Env) (s : Shared) (H : Hp) (Q : VK) (p : Addr × Obj) (args : Args), RoomH k A → Hot1 A p → PinOk outer H s p → Env0 P w K mg base A outer s H → BindsTo s fd args ((["e"] : List Str).zip [.ref p.1]) → L2N.Zn (.ref Dc) none p.2 → (∃ vs, p.2.data = .fields vs) →
    (∃ B m R, SRp K B H m ∧ R v m ∧ Thn K B H m R Q) → codeAny (model P w) A (.call (.ref f) args) (CR (L2N.CX P w) outer P w H s Q E0) s
section
variable {P : Program} {w : World} {K : PySem.W.Frag} {mg : Str → Option Value} {base : Heap}
abbrev cxW (P : Program) (w : World) (K : PySem.W.Frag) (mg : Str → Option Value) (base : Heap) (N : List Str) (qual : Str) (st : Stmt) (f : Addr) (cdv : Value) (A : Around) (outer : List PySem.Env) (s : Shared) (H : Hp) (p : Addr × Obj) : Cx := cxH (L2N.CX P w) P w K mg base N qual (defScope st) f cdv A outer s H E0 p
theorem fnW {x qual : Str} {st : Stmt} {f : Addr} {fd : FuncData} {N : List Str} {k : Nat} {Dc : Addr} {v : D} {b : Addr → WS} (F : Fun K x qual st f fd) (S : FnScope N ["e"] (defScope st))
    (hd : ∀ (cdv : Value) (A : Around) (outer : List PySem.Env) (s : Shared) (H : Hp) (p : Addr × Obj), RoomH k (A.deeper (envOfC qual (defScope st) s.heap.objs.size f cdv)) → L2N.Zn (.ref Dc) none p.2 → (∃ vs, p.2.data = .fields vs) → PSs (cxW P w K mg base N qual st f cdv A outer s H p) (defBody st) (upS K W0 (b p.1)))
    (hg : ∀ a m R, R v m → b a (startD N.length [.ref a]) m (endD R (fun _ _ => False))) (hN : 1 ≤ N.length := by decide) : FnW P w K mg base (k + 1) f fd Dc v := by
  obtain ⟨oc, od, kV, doc, pm, an, cdv, ct, osl, rfl, lk, hcd⟩ := F.ex
  intro A outer s H Q p args hr hot hpin e0 hb hz hf h
  obtain ⟨B, m, R, hS, hR, ht⟩ := h
  have KX : K.In s.heap := e0.mod.kin.keeps fun b o e => (e0.bs b o e).1
  have lim : s.heap.NoLimit := e0.mod.nolimit.keeps fun b o e => (e0.bs b o e).1
  have hkind : ∀ y ∈ (["e"] : List Str).zip [Value.ref p.1], (defScope st).names.lookup y.1 = some .local ∨ ((defScope st).names.lookup y.1 = some .cell ∧ ((cellsFrom (s.heap.objs.size + 1) (defScope st).names []).lookup y.1).isSome = true) := fun ⟨n, v⟩ hy => by
    rcases S.par n (List.of_mem_zip hy).1 with q | q
    · exact .inl q
    · exact .inr ⟨q, PySem.W.cellsFrom_some _ _ _ (.inl q)⟩
  refine codeAny_call_function hr.depth (KX _ _ lk) rfl S.co S.gen rfl (PySem.W.codeRec_of KX hcd) (hb _ _ _ _ ?_)
  refine wpAny_newFunctionEnv_cells S.kind hkind fun env he s1 x => ?_
  subst he
  refine ⟨lim.keeps x.toInCall.keep, codeAny_func ?_⟩
  have I : Inv (cxW P w K mg base N qual st f cdv A outer s H p) [] (L2.start N [V.ref p.1]) H s1 := inv_startH S hpin e0 rfl (.cons rfl .nil) x
  have hp1 : DpAll K B [V.ref p.1] [D.ref p.1] := .cons (.ref _) .nil
  refine wpAny_mono ((hd cdv A outer s H p (hr.deeper _) hz hf).run [] s1 (L2.start N [V.ref p.1]) H { nx := fun _ H' => Q .non H', rt := Q } I ⟨B, startD N.length [.ref p.1], m, endD R (fun _ _ => False), start_erp hp1 hN, hS, hg p.1 m R hR, ?_⟩) (fun fl s' hs => ?_) fun e s' hs => hs
  · exact ⟨fun B' σ' r' m' H' a b c d q => ht B' .non m' .non H' a b c .non q, ht, fun _ _ _ _ _ _ _ _ _ _ z => z, fun _ _ _ _ _ _ _ _ _ z => z.elim, fun _ _ _ _ _ _ _ _ _ z => z.elim⟩
  · have fin : ∀ {σ' : L2.St} {H' : Hp} {v : V} {u : Value}, Inv (cxW P w K mg base N qual st f cdv A outer s H p) [] σ' H' s' → RelV v u → Q v H' → CE outer P w H s Q u s' :=
      fun {σ' H' v u} J rv q => ⟨v, H', J.os, J.bare, J.base, J.hok, rv, q⟩
    cases fl with
    | ret u =>
      obtain ⟨v, σ', H', J, rv, q⟩ := hs
      exact fin J rv q
    | next =>
      obtain ⟨σ', H', J, q⟩ := hs
      exact fin (v := V.non) (u := Value.none) J rfl q
    | brk =>
      obtain ⟨_, _, _, q⟩ := hs
      exact False.elim q
    | cont =>
      obtain ⟨_, _, _, q⟩ := hs
      exact False.elim q
end
section
variable {X : Cx} {W : WX} {pos p pos' p2 np : Pos}
theorem isE_hot {a Dc : Addr} {oe : Obj} (hp : (a, oe) ∈ X.pn) (C : ExcC X.K Dc) (hz : L2N.Zn (.ref Dc) none oe) (hf : ∃ vs, oe.data = .fields vs) : CallR X (.builtin "isinstance") (rIsE X.K Dc a) := by
  intro pins s σ H xs us Q I r h
  obtain ⟨c, cv, b, rfl, hcv, e, q⟩ := h
  cases r with
  | cons rx rr =>
    cases rr with
    | cons rt rr =>
      cases rr
      cases rx
      have ec := hcv _ rt
      subst ec
      obtain ⟨hget, _⟩ := I.pin (a, oe) (List.mem_append.mpr (.inl hp))
      obtain ⟨vs, hv⟩ := hf
      have J : PySem.W.InstAt s.heap a oe Dc none := by
        obtain ⟨oc, od, oda, osl⟩ := oe
        obtain ⟨h1, h2, _⟩ := hz
        dsimp only at h1 h2 hv
        subst h1 h2 hv
        exact ⟨hget, rfl, rfl, trivial⟩
      exact PySem.W.kia_one (PySem.W.handS_kitx_exc C.hg C.hk C.hs C.hd C.ha C.hn C.ht C.hm) I.kIn J e (fun z => nomatch z) fun tk => ⟨.bl b, H, I.kept (t' := tk) fun _ _ z => z, rfl, q⟩
def clsVal : D → Option Value
  | .ref C => some (.ref C)
  | .ty n => some (.type n)
  | _ => none
def wIsE (a : Addr) (tab : D → Option Bool) : WL := fun us m R => match us with
  | [.ref b, c] => b = a ∧ ok (tab c) fun v => R (.bl v) m
  | _ => False
theorem isE_ {a Dc : Addr} {oe : Obj} {tab : D → Option Bool} (hp : (a, oe) ∈ X.pn) (C : ExcC X.K Dc) (hz : L2N.Zn (.ref Dc) none oe) (hf : ∃ vs, oe.data = .fields vs) (ht : ∀ c v, tab c = some v → ∃ u, clsVal c = some u ∧ PySem.W.kitOne X.K (.ref Dc) u = some v) : CallD X (.builtin "isinstance") (wIsE a tab) := by
  refine ⟨_, isE_hot hp C hz hf, fun B us ds p H m R Q S h t => ?_⟩
  match ds, h with
  | [.ref b, c], h =>
    obtain ⟨v, u, rfl, p1, q1⟩ := two_arg p rfl
    obtain ⟨eb, h'⟩ := h
    subst eb
    obtain ⟨z, h1, h2⟩ := ok_iff.mp h'
    obtain ⟨cv, h3, h4⟩ := ht c z h1
    cases p1
    refine ⟨u, cv, z, rfl, fun uu ru => ?_, h4, eff_ret S t (.bl _) h2⟩
    cases q1 <;> cases h3 <;> exact ru
def wTry (wh : Addr → Option D) (s : WS) : WS := fun r m k => s r m { k with ex := fun C m' => ok (wh C) fun d => k.rt d m' }
theorem psd_tryW {body : List Stmt} {x fn : Str} {CI : Addr} {i k : Nat} {f : Addr} {fd : FuncData} {s1 : WS} {wh : Addr → Option D} {q3 q4 q5 : Pos} (hs : X.stack = X.env :: X.outer) (hf : X.env.frame = some X.env.locals) (hN : X.N.Nodup) (hi : X.N[i]? = some "e") (hln : X.env.kindOf "e" = some .local)
    (hx : Names X x (.ref CI)) (tk : L2N.Takes X W) (hc : X.calm = true) (hr : Room k X.A) (hgf : Gl X fn) (hmf : X.mg fn = some (.ref f)) (hkf : PySem.W.keepIn X.K (.ref f) = true) (hbf : Binds X.K fd ["e"] [])
    (hw : ∀ C v, wh C = some v → PySem.W.exmOne X.K (.ref C) (.ref CI) = some true ∧ FnW X.prog X.w X.K X.mg X.base k f fd C v)
    (hb : ∀ (W : WX) (pn : List (Addr × Obj)) (xe : Value → Shared → Prop), L2N.Takes (X.tr pn xe) W → PSs (X.tr pn xe) body (upS X.K W s1)) (hdb : (fn == ("__debug__" : Str)) = false := by decide) :
    PS X (.Try body [.ExceptHandler (some (.Name x np)) (some "e") [.Return (some (.Call (.Name fn q3) [.Name "e" q4] [] q5)) p2] pos'] [] [] pos) (upS X.K W (wTry wh s1)) := by
  let te : Addr → Value → Option Addr → TE := fun a cls d σ H Q => ∃ C v B m R, cls = .ref C ∧ d = none ∧ wh C = some v ∧ (∃ σ0 : L2.St, σ = σ0.set i (some (.ref a))) ∧ SRp X.K B H m ∧ R v m ∧ Thn X.K B H m R Q
  refine PS.imp (L2N.ps_try_as (c := .ref CI) (i := i) (ts := fun a cls d => tRet (te a cls d)) (tb := fun W => upS X.K W s1) (Wout := W) hs hf hN hi hln hx tk (fun W pn xe tk' _ => hb W pn xe tk') (fun a oe cls d pn hz hff => ?_)) fun E σ H ⟨B, r, m, k, er, S, h, t⟩ => ?_
  · refine pss_one (ps_ret ⟨fun pins s σ H Q I h => ?_⟩)
    obtain ⟨C, v, B, m, R, e1, e2, hv, hsl, hS, hR, hT⟩ := h
    subst e1
    subst e2
    obtain ⟨σ0, eσ⟩ := hsl
    have hsl : σ[i]? = some (some (V.ref a)) := by
      have hl : i < σ0.length := by
        have h1 : i < X.N.length := (List.getElem?_eq_some_iff.mp hi).1
        have h2 : σ.length = X.N.length := I.len
        rw [eσ, List.length_set] at h2
        omega
      rw [eσ]
      exact List.getElem?_set_self hl
    refine wpAny_Call_Name_kw (ld_glob I hgf hmf ?_ hdb)
    have hpe : PE (X.suite a ((a, oe) :: pn)) (.Name "e" q4) (tVar i) := pe_var hi (.inl hln)
    have ha : PA (X.suite a ((a, oe) :: pn)) [.Name "e" q4] (tCons (tVar i) tNil) := pa_cons hpe pa_nil
    refine PySem.W.callWith_K (h₀ := X.base) I.ok.mod.kin hkf (thn (ha.run q5 pins s σ H (fun vs H1 => vs = [V.ref a] ∧ H = H1) I ⟨.ref a, hsl, rfl, rfl⟩) fun us s1 hh => ?_)
    obtain ⟨vs, H1, I1, r1, ev, eH⟩ := hh
    subst ev
    rw [← eH] at I1
    refine ⟨I1.kIn, ?_⟩
    cases r1 with
    | cons ru rn =>
      cases rn
      cases ru
      obtain ⟨_, FW⟩ := hw C v hv
      have P1 := I1.pin (a, oe) (List.mem_append_left _ List.mem_cons_self)
      have hpin : PinOk (X.suite a ((a, oe) :: pn)).stack H s1 (a, oe) := ⟨P1.1, P1.2.1, fun hm => (List.mem_cons.mp (I1.stkSub a hm)).elim P1.2.2.1 P1.2.2.2.1, P1.2.2.2.2⟩
      have hot : Hot1 (X.suite a ((a, oe) :: pn)).A (a, oe) := by
        obtain ⟨vs, hv⟩ := hff
        exact ⟨rfl, vs, hv, hz.2.2 vs hv⟩
      have bb := hbf s1 [Value.ref a] I1.kIn rfl
      refine wpAny_call (codeAny_mono (FW (X.suite a ((a, oe) :: pn)).A X.stack s1 H Q (a, oe) ⟨[Value.ref a], []⟩ ⟨hr.dp, hr.un⟩ hot hpin I1.env0 bb hz hff ⟨B, m, R, hS, hR, hT⟩) fun r s' hq => ?_)
      cases r with
      | error e =>
        obtain ⟨_, _, _, _, _, _, _, _, _, _, _, _, z⟩ := hq
        exact z.elim
      | ok fl =>
        cases fl with
        | ret u => exact I1.after hq
        | next => exact False.elim hq
        | brk => exact False.elim hq
        | cont => exact False.elim hq
  · refine ⟨B, r, m, _, er, S, h, t.nx, t.rt, fun B' σ' r' C m' H' a b c d q => ?_, t.bk, t.ct⟩
    obtain ⟨v, hv, q⟩ := ok_iff.mp q
    refine ⟨true, (hw C v hv).1, fun _ ad nad => ?_, fun z => Bool.noConfusion z⟩
    exact ⟨C, v, B', m', k.rt, rfl, rfl, hv, ⟨σ', rfl⟩, b, q, t.rt.step a c⟩
def wCallV (tab : Addr → Option (Nat × FW)) (f : WE) (a : WA) : WE := fun r m R x => f r m (fun u m1 => match u with
  | .ref q => ok (tab q) fun g => a r m1 (fun us m2 => us.length = g.1 ∧ g.2 us m2 R x) x
  | _ => False) x
theorem pd_callV {func e : Expr} {es : List Expr} {ff : WE} {ga : WA} {k : Nat} {tab : Addr → Option (Nat × FW)} (hf : PE X func (up X.K W ff)) (hr : Room k X.A) (tk : L2N.Takes X W)
    (ht : ∀ q g, tab q = some g → ∃ fd ps, FnOk X.prog X.w X.K X.mg X.base (L2N.CX X.prog X.w) k q fd ps (spD X.K g.1 g.2) ∧ PySem.W.keepIn X.K (.ref q) = true ∧ Binds X.K fd ps [])
    (ha : PA X (e :: es) (upA X.K W ga)) (hev : eval (.Call func (e :: es) [] pos) X.env = (do callWith pos (← eval func X.env) [] (backTo pos (starEach (e :: es) X.env)) (backToKw pos (keywordEach [] X.env))) := by rfl)
    (he : starEach (e :: es) X.env = (false, eval e X.env) :: starEach es X.env := by rfl) (hpl : (backTo pos (starEach es X.env)).any (·.1) = false := by rfl) :
    PE X (.Call func (e :: es) [] pos) (up X.K W (wCallV tab ff ga)) := by
  refine ⟨fun pins s σ H Q I h => ?_⟩
  obtain ⟨B, ρ, m, R, x, er, S, h, t, tx⟩ := h
  refine Call_ (thn (hf.run pins s σ H (fun v H1 => ∃ B1 m1 q g, v = .ref q ∧ tab q = some g ∧ Same B B1 ∧ SRp X.K B1 H1 m1 ∧ Frm B H m B1 H1 m1 ∧ ga ρ m1 (fun us m2 => us.length = g.1 ∧ g.2 us m2 R x) x) I ⟨B, ρ, m, _, x, er, S, h, fun B1 d m1 u H1 s1 S1 f1 p1 q1 => ?_, tx⟩) fun u s1 ⟨v, H1, I1, r1, B1, m1, q, g, ev, hg, sm, S1, f1, q1⟩ => ?_) hev
  · cases d with
    | ref q =>
      obtain ⟨g, hg, q2⟩ := ok_iff.mp q1
      have eu : u = .ref q := by cases p1; rfl
      exact ⟨B1, m1, q, g, eu, hg, s1, S1, f1, q2⟩
    | _ => exact q1.elim
  · subst ev
    cases r1
    obtain ⟨fd, ps, F, hk, hb⟩ := ht q g hg
    refine PySem.W.callWith_K (h₀ := X.base) I.ok.mod.kin hk (thn (ha.run pos pins s1 σ H1 (fun vs H2 => spD X.K g.1 g.2 vs H2 Q (L2.WE W σ)) I1 ⟨B1, ρ, m1, _, x, er.mono sm, S1, q1, fun B2 ds m2 vs H2 s2 S2 f2 p2 q2 => sp_up (by rw [p2.length]; exact q2.1) p2 S2 q2.2 (t.step (sm.trans s2) (f1.trans f2)) (tx.step (sm.trans s2) (f1.trans f2)), tx.step sm f1⟩) fun us s2 ⟨vs, H2, I2, r, q⟩ => ⟨I2.kIn, ?_⟩) he hpl
    exact run_fnS (E := L2.WE W) F hr hb (L2N.passAt tk σ) I2 r q
theorem takesN0 {X : Cx} : L2N.Takes X W0 := fun _ _ x => by
  obtain ⟨_, _, _, _, _, _, _, _, _, _, _, _, _, _, _, _, z⟩ := x
  exact z.elim
theorem psd_never {st : Stmt} : PS X st (upS X.K W wNever) := PS.imp ps_never fun E σ H ⟨B, r, m, k, er, S, h, t⟩ => h
theorem pssd_never {sts : List Stmt} : PSs X sts (upS X.K W wNever) := PSs.imp pss_never fun E σ H ⟨B, r, m, k, er, S, h, t⟩ => h
theorem u65 {k : Nat} {A : Around} (hr : Room k A) : A.units + 65 < cLine := by have := hr.un; omega
theorem u64 {k : Nat} {A : Around} (hr : Room k A) : A.units + 64 < cLine := by have := hr.un; omega
theorem u1 {k : Nat} {A : Around} (hr : Room k A) : A.units + 1 < cLine := by have := hr.un; omega
theorem u65h {k : Nat} {A : Around} (hr : L2H.RoomH k A) : A.units + 65 < cLine := by have := hr.un; omega
theorem u64h {k : Nat} {A : Around} (hr : L2H.RoomH k A) : A.units + 64 < cLine := by have := hr.un; omega
theorem pd_gs {x s : Str} (h : ∃ t, X.mg x = some (.str s t)) (hg : Gl X x) (hd : (x == ("__debug__" : Str)) = false := by decide) : PE X (.Name x pos) (up X.K W (wC (.str s))) := by
  obtain ⟨t, h⟩ := h
  exact pd_c (pe_glob (v := .str s) hg h ⟨t, rfl⟩ hd) fun _ => .str s
theorem pd_gi {x : Str} {i : Int} (h : ∃ t, X.mg x = some (.int i t)) (hg : Gl X x) (hd : (x == ("__debug__" : Str)) = false := by decide) : PE X (.Name x pos) (up X.K W (wC (.int i))) := by
  obtain ⟨t, h⟩ := h
  exact pd_c (pe_glob (v := .int i) hg h ⟨t, rfl⟩ hd) fun _ => .int i
theorem pd_gt {x : Str} {ds : List D} (h : ∃ a, X.mg x = some (.ref a) ∧ ∀ B, Dp X.K B (.ref a) (.tup ds)) (hg : Gl X x) (hd : (x == ("__debug__" : Str)) = false := by decide) : PE X (.Name x pos) (up X.K W (wC (.tup ds))) := by
  obtain ⟨a, h, hp⟩ := h
  exact pd_c (pe_glob (v := .ref a) hg h rfl hd) hp
theorem pd_gr {x : Str} {a : Addr} (h : X.mg x = some (.ref a)) (hg : Gl X x) (hd : (x == ("__debug__" : Str)) = false := by decide) : PE X (.Name x pos) (up X.K W (wC (.ref a))) := pd_c (pe_glob (v := .ref a) hg h rfl hd) fun _ => .ref a
theorem pd_bty {x : Str} {n : String} (hm : X.mg x = none) (hv : bootBuiltins x = some (.type n)) (hg : Gl X x) (hn : x ≠ "__name__" := by decide) (hd : (x == ("__debug__" : Str)) = false := by decide) : PE X (.Name x pos) (up X.K W (wC (.ty n))) := pd_c (pe_bltn (v := .ty n) hg hm hv rfl hn hd) fun _ => .ty n
structure Fn (K : PySem.W.Frag) (mg : Str → Option Value) (x qual : Str) (st : Stmt) (ps : List Str) where
  f : Addr
  fd : FuncData
  F : Fun K x qual st f fd
  b : Binds K fd ps []
end
end DL
end
section
set_option maxHeartbeats 0
namespace DL
open PySem PySem.Spec PyProof.Rows L2
section
variable {X : Cx} {W : WX} {a b c o e : Expr} {fa fb fc : WE} {pos p apos cpos : Pos} {es : List Expr} {ga : WA} {K : PySem.W.Frag} {B H : Hp} {m : Store}
theorem first_one {s : Str} {c i : Nat} (h : s.cps.toList[i]? = some c) (hn : ∀ j, j < i → s.cps.toList[j]? ≠ some c) : ∃ rest, Builtin.Str.occurrences s ⟨#[c]⟩ 0 s.length 1 = i :: rest := by
  have hat : ∀ j, StrLaws.At s ⟨#[c]⟩ s.length j ↔ s.cps.toList[j]? = some c := fun j => StrLaws.subAt_one s c j
  rcases StrLaws.occ_head s ⟨#[c]⟩ 1 (Nat.le_refl 1) with ⟨_, h2⟩ | ⟨a, r, h1, h2, h3⟩
  · exact absurd ((hat i).mpr h) (h2 i)
  · have e : a = i := by
      rcases Nat.lt_trichotomy a i with z | z | z
      · exact absurd ((hat a).mp h2) (hn a z)
      · exact z
      · exact absurd ((hat i).mpr h) (h3 i z)
    subst e
    exact ⟨r, h1⟩
theorem sindex_ : MtD X "str.index" wSIndex := by
  refine ⟨_, mt_sindex, fun B u d us ds p ps H m R Q S h t => ?_⟩
  match d, ds, h with
  | .str s, [.str w], h =>
    obtain ⟨v, rfl, q⟩ := one_arg ps rfl
    cases p
    cases q
    obtain ⟨c, i, rfl, h1, h2, h3⟩ := h
    obtain ⟨rest, e⟩ := first_one h1 h2
    exact ⟨s, _, i, rest, rfl, rfl, e, eff_ret S t (.int _) h3⟩
theorem pd_fgt (ha : PE X a (up X.K W fa)) : PE X a (up X.K W (wFgt fa)) := PE.imp ha fun σ H Q h => by
  obtain ⟨B, ρ, m, R, x, er, S, h, t, tx⟩ := h
  refine ⟨B, ρ, m, _, x, er, S, h, fun B1 d m1 u H1 s1 S1 f1 p1 q1 => ?_, tx⟩
  obtain ⟨m2, sb, q⟩ := q1
  refine t B1 d m2 u H1 s1 (S1.sub sb) ⟨f1.keep, fun z ho ez nz => ?_, f1.bout⟩ p1 q
  cases e : m2 z with
  | none => rfl
  | some o => have y := sb z o e; rw [f1.out z ho ez nz] at y; cases y
theorem disp_up {ps : List (WE × WE)} {σ : L2.St} {ρ : Env} {x : XD} {Kd : List (DKey × D) → Store → Prop} {Q : VK} (S : SRp X.K B H m) (er : ERp X.K B σ ρ) (tx : ThX X.K B H m x fun C H' => W (.ref C) none σ H')
    (h : wPairs ps ρ m (fun us m1 => us.length ≤ 15 ∧ ok (keysD us) fun kvs => Kd kvs m1) x) (q : ∀ B' kvs gs m' H' z, Same B B' → SRp X.K B' H' m' → Frm B H m B' H' m' → m' z = none → H' z = some (.dK gs) → KRel X.K B' gs (mergeD [] kvs) → Kd kvs m' → Q (.ref z) H') :
    tDisp (ps.map fun q => (up X.K W q.1, up X.K W q.2)) σ H Q := by
  intro z nz
  obtain ⟨S1, f1⟩ := S.free (ho := .dK []) nz
  have hB : B z = none := by
    cases y : B z with
    | none => rfl
    | some o => rw [S.same _ _ y] at nz; cases nz
  have hm : m z = none := by
    cases y : m z with
    | none => rfl
    | some o => obtain ⟨_, ho', z1, _⟩ := S.obj _ _ y; rw [z1] at nz; cases nz
  refine pairs_up ps B _ m _ _ er S1 h (tx.step (Same.refl B) f1) fun B2 us m2 vs H2 s2 S2 f2 p2 q2 => ?_
  obtain ⟨hl2, q2⟩ := q2
  obtain ⟨kvs, h1, h2⟩ := ok_iff.mp q2
  obtain ⟨gs, e1, rel⟩ := keysD_v p2 kvs h1
  have hq : H2 z = some (.dK []) := f2.keep z _ upd_same hm
  have mq : m2 z = none := f2.out z _ upd_same hm
  have bq : B2 z = none := f2.bout z _ upd_same hm hB
  have hlen : gs.length ≤ 15 := by
    have := Paired.length p2
    rw [e1, List.length_map] at this
    omega
  refine ⟨hq, gs, e1, hlen, q B2 kvs _ m2 _ z s2 ⟨fun y o ey => ?_, fun y mo ey => ?_⟩ ⟨fun y ho ey ny => ?_, fun y ho ey ny => ?_, fun y ho ey ny by' => ?_⟩ mq upd_same (KRel.merge .nil rel) h2⟩
  · rw [upd_ne (ne_of_none ey bq)]; exact S2.same _ _ ey
  · obtain ⟨z1, ho, z2, z3⟩ := S2.obj y mo ey
    exact ⟨z1, ho, by rw [upd_ne (fun w => by subst w; rw [mq] at ey; cases ey)]; exact z2, z3⟩
  · have nzq : y ≠ z := ne_of_none ey nz
    rw [upd_ne nzq]
    exact f2.keep y ho (by rw [upd_ne nzq]; exact ey) ny
  · exact f2.out y ho (by rw [upd_ne (ne_of_none ey nz)]; exact ey) ny
  · exact f2.bout y ho (by rw [upd_ne (ne_of_none ey nz)]; exact ey) ny by'
theorem pd_dispget {keys : List (Option Expr)} {values : List Expr} {ps : List (WE × WE)} {dp : Pos} (hu : X.A.units + 1 < cLine) (h : PPd X W dp keys values ps) (hall : keys.all (·.isSome) = true) (hl : keys.length = values.length) (h0 : keys ≠ []) (h15 : keys.length ≤ 15) (hi : PE X b (up X.K W fb)) (hs : NoSl b) :
    PE X (.Subscript (.Dict keys values dp) b pos) (up X.K W (wDispGet ps fb)) := PE.imp (pe_dget hu (pe_disp h.run hall hl h0 h15) hi hs) fun σ H Q h => by
  obtain ⟨B, ρ, m, R, x, er, S, h, t, tx⟩ := h
  refine disp_up S er tx h fun B1 kvs gs m1 H1 z s1 S1 f1 nz hz rel q1 => ?_
  refine ⟨B1, ρ, m1, _, x, er.mono s1, S1, q1, fun B2 e m2 v H2 s2 S2 f2 p2 q2 => ?_, tx.step s1 f1⟩
  obtain ⟨k, h1, q3⟩ := ok_iff.mp q2
  obtain ⟨w, h2, q4⟩ := ok_iff.mp q3
  have hz2 : H2 z = some (.dK gs) := f2.keep z _ hz nz
  obtain ⟨u, e2, pw⟩ := (rel.val (k := k)).2 w h2
  have ev := keyD_v p2 h1
  subst ev
  refine ⟨z, u, rfl, ?_, t B2 _ m2 _ H2 (s1.trans s2) S2 (f1.trans f2) (pw.mono s2) q4⟩
  rw [← e2]
  exact DGet.k hz2
theorem pd_dispget2 {keys : List (Option Expr)} {values : List Expr} {ps : List (WE × WE)} {dp : Pos} (hu : X.A.units + 1 < cLine) (h : PPd X W dp keys values ps) (hall : keys.all (·.isSome) = true) (hl : keys.length = values.length) (h0 : keys ≠ []) (h15 : keys.length ≤ 15) (hi : PE X b (up X.K W fb)) (hc : PE X c (up X.K W fc))
    (mm : M2 X (.Dict keys values dp) "get" apos b c cpos) : PE X (.Call (.Attribute (.Dict keys values dp) "get" apos) [b, c] [] cpos) (up X.K W (wDispGet2 ps fb fc)) := PE.imp (pe_dget2 hu (pe_disp h.run hall hl h0 h15) hi hc mm) fun σ H Q h => by
  obtain ⟨B, ρ, m, R, x, er, S, h, t, tx⟩ := h
  refine disp_up S er tx h fun B1 kvs gs m1 H1 z s1 S1 f1 nz hz rel q1 => ?_
  refine ⟨z, rfl, .inl ⟨gs, .inl hz⟩, B1, ρ, m1, _, x, er.mono s1, S1, q1, fun B2 e m2 v H2 s2 S2 f2 p2 q2 => ?_, tx.step s1 f1⟩
  refine ⟨B2, ρ, m2, _, x, er.mono (s1.trans s2), S2, q2, fun B3 g m3 y H3 s3 S3 f3 p3 q3 => ?_, tx.step (s1.trans s2) (f1.trans f2)⟩
  obtain ⟨k, h1, q4⟩ := ok_iff.mp q3
  have hz3 : H3 z = some (.dK gs) := f3.keep z _ (f2.keep z _ hz nz) (f2.out z _ hz nz)
  have ev := keyD_v p2 h1
  subst ev
  refine ⟨_, DGet.k hz3, ?_⟩
  cases q : lookK (mergeD [] kvs) k with
  | none =>
    rw [(rel.val (k := k)).1 q]
    rw [q] at q4
    exact t B3 _ m3 _ H3 ((s1.trans s2).trans s3) S3 ((f1.trans f2).trans f3) p3 q4
  | some w =>
    obtain ⟨u, e2, pw⟩ := (rel.val (k := k)).2 w q
    rw [e2]
    rw [q] at q4
    exact t B3 _ m3 _ H3 ((s1.trans s2).trans s3) S3 ((f1.trans f2).trans f3) (pw.mono (s2.trans s3)) q4
end
end DL
end
section
set_option maxHeartbeats 0
namespace DL
open PySem PySem.Spec PyProof.Rows L2
def wRemD : WM := fun d us m R => match d, us with
  | .ref a, [y] => ∃ xs j z, m a = some (.lst xs) ∧ dOk y 59 = true ∧ dOks xs 59 = true ∧ xs[j]? = some z ∧ eqD z y = true ∧ (∀ k z', k < j → xs[k]? = some z' → eqD z' y = false) ∧ R .non (sup m a (.lst (xs.eraseIdx j)))
  | _, _ => False
section
variable {X : Cx} {K : PySem.W.Frag} {B H : Hp} {m : Store}
def rRemD (K : PySem.W.Frag) : V → List V → Hp → VK → Prop := fun x xs H Q => ∃ (a : Addr) (y : V) (d : PyData) (vs : List V) (ds : List PyData) (j : Nat) (z : PyData), x = V.ref a ∧ xs = [y] ∧ H a = some (.lst vs) ∧ L2.DpAll K H vs ds ∧ L2.Dp K H y d ∧
  SeqAt.shaped (.list ds) = true ∧ SeqAt.shaped d = true ∧ ds[j]? = some z ∧ PyData.eqv z d = true ∧ (∀ (m : Nat) (z' : PyData), m < j → ds[m]? = some z' → PyData.eqv z' d = false) ∧ Q .non (upd H a (.lst (vs.eraseIdx j)))
theorem mt_remD (hu : X.A.units + 65 < cLine) : MtM X "list.remove" (rRemD X.K) := by
  intro pins s σ H x xs v us Q I rx rxs h
  obtain ⟨a, y, d, vs, ds, j, z, rfl, rfl, hH, ha, hy, sl, sd, hz, hzj, hno, q⟩ := h
  cases rx
  obtain ⟨uy, rfl, ry⟩ := rxs.one
  obtain ⟨bs, r1⟩ := Dp.reads I d y uy hy ry
  have hxs : PyData.canLayAll0 ds = true := SeqAt.canLay_of_shaped sl
  have hroom : X.A.units + 1 + min (PyData.depthAll ds) d.depth < cLine := room_in_shaped sd hu
  obtain ⟨zl, its, n, rv, hl, ho⟩ := I.lstM hH
  obtain ⟨as, h4⟩ := Dp.readsAll I ds _ its ha rv
  have hn : its.length = ds.length := SeqAt.ReadsAll.length ds its as h4
  have hmap : its.map (SeqAt.readOf s.heap) = ds := SeqAt.readsAll_map ds its as hxs h4
  obtain ⟨hjd, _⟩ := List.getElem?_eq_some_iff.mp hz
  have hjl : j < its.length := by omega
  have hj : j < its.toArray.size := by simpa using hjl
  have at_ : ∀ (m : Nat) (hm : m < its.toArray.size) (z' : PyData), ds[m]? = some z' → SeqAt.readOf s.heap its.toArray[m] = z' := by
    intro m hm z' hz'
    have hml : m < its.length := by simpa using hm
    rw [← hmap, List.getElem?_map, List.getElem?_eq_getElem hml] at hz'
    have e1 : SeqAt.readOf s.heap its[m] = z' := Option.some.inj (show some (SeqAt.readOf s.heap its[m]) = some z' from hz')
    simpa using e1
  refine call_meets PySem.F.slot_list_remove ⟨_, ho, rfl⟩ PySem.F.entry_list_remove (PySem.F.args_list_remove_2 _ _)
    (SeqAt.list_removeAt a its.toArray n none _ uy (fun u => PyData.eqv (SeqAt.readOf s.heap u) d) j hj ?_ ?_ (by rw [List.size_toArray]; omega)) ⟨ho, SeqAt.items_eqAt (vs := its.toArray) (show ReadsAll s.heap its.toArray.toList ds as from h4) r1 hxs (SeqAt.canLay_of_shaped sd) hroom, ?_⟩
  · show PyData.eqv (SeqAt.readOf s.heap its.toArray[j]) d = true
    rw [at_ j hj z hz]
    exact hzj
  · intro m hm hmj
    have hmd : m < ds.length := by omega
    have hz' : ds[m]? = some ds[m] := List.getElem?_eq_getElem hmd
    show PyData.eqv (SeqAt.readOf s.heap its.toArray[m]) d = false
    rw [at_ m hm _ hz']
    exact hno m _ hmj hz'
  · have rr := rv.eraseIdx j
    refine ⟨.non, _, I.lset (its' := its.eraseIdx j) (t' := s.toks) hH ho ?_ rr ?_, rfl, q⟩
    · show its.toArray.eraseIdxIfInBounds j = (its.eraseIdx j).toArray
      rw [List.eraseIdxIfInBounds_toArray]
    · have z2 : (vs.eraseIdx j).length ≤ vs.length := List.length_eraseIdx_le vs j
      omega
theorem toPys_get : ∀ (xs : List D) (j : Nat), (toPys xs)[j]? = (xs[j]?).map toPy
  | [], j => by simp [toPys]
  | x :: xs, 0 => by simp [toPys]
  | x :: xs, j + 1 => by simp [toPys, toPys_get xs j]
theorem dOks_get : ∀ {xs : List D} {n j : Nat} {z : D}, dOks xs n = true → xs[j]? = some z → dOk z n = true
  | [], n, j, z, _, h => by simp at h
  | x :: xs, n, 0, z, h, e => by simp at e; subst e; exact ((Bool.and_eq_true _ _).mp h).1
  | x :: xs, n, j + 1, z, h, e => dOks_get ((Bool.and_eq_true _ _).mp h).2 (by simpa using e)
theorem remD_ (hu : X.A.units + 65 < cLine) : MtD X "list.remove" wRemD := by
  refine ⟨_, mt_remD hu, fun B u d us ds p ps H m R Q S h t => ?_⟩
  match d, ds, h with
  | .ref a, [y], h =>
    obtain ⟨v, rfl, q⟩ := one_arg ps rfl
    cases p
    obtain ⟨xs, j, z, h1, h2, h3, h4, h5, h6, h7⟩ := h
    obtain ⟨vs, e, r⟩ := S.list h1
    have hs : dOk (.lst xs) 60 = true := by rw [dOk]; exact h3
    refine ⟨a, v, toPy y, vs, toPys xs, j, toPy z, rfl, rfl, e, toPys_dp S.same r h3, toPy_dp S.same q h2, toPy_shaped (d := .lst xs) hs (by decide), toPy_shaped h2 (by decide), by rw [toPys_get, h4]; rfl, by rw [toPy_eq _ _ _ _ (dOks_get h3 h4) h2]; exact h5, fun k z' hk hz' => ?_, eff_put S t h1 (r.erase j) .non h7⟩
    rw [toPys_get] at hz'
    cases e2 : xs[k]? with
    | none => rw [e2] at hz'; cases hz'
    | some w =>
      rw [e2] at hz'
      cases hz'
      rw [toPy_eq _ _ _ _ (dOks_get h3 e2) h2]
      exact h6 k w hk e2
end
end DL
end
section
set_option maxHeartbeats 0
namespace DL
open PySem PySem.Spec PyProof.Rows L2
abbrev set0 (w : World) : Obj := { cls := .type "set", dict := none, data := .set #[] 0 (.fresh 0 0 (!w.params.followText "set-order")) }
abbrev lit0 (l : Addr) : Obj := { cls := .type "list_iterator", data := .fields #[.ref l, .int 0 0] }
section
variable {P : Program} {w : World} {A : Around} {E : Value → Shared → Prop} {s : Shared}
set_option maxHeartbeats 3200000 in
theorem set_made {l : Addr} {items : Array Value} {Q : Value → Shared → Prop} (T : Heap → Prop) (hh : A.handled = none) (hl : s.heap.IsList l items)
    (loop : ∀ (R : Result → Shared → Prop), ((s.heap.push (set0 w)).push (lit0 l)).IsList l items →
      (∀ s', Moved [s.heap.objs.size, s.heap.objs.size + 1] (fun g g' => g' = g) { s with heap := (s.heap.push (set0 w)).push (lit0 l) } s' → T s'.heap → R (.ok (.ret .none)) s') →
      codeAny (model P w) A.in1.in1 (.builtin "set.update.loop" ⟨[.ref s.heap.objs.size, .ref (s.heap.objs.size + 1)], []⟩) R { s with heap := (s.heap.push (set0 w)).push (lit0 l) })
    (h : ∀ (h' : Heap) (tk : Nat), T h' → (∀ b o, s.heap.get? b = some o → h'.get? b = some o) → Q (.ref s.heap.objs.size) { s with heap := h', toks := tk }) :
    wpAny (model P w) A (call (.type "set") [.ref l]) Q E s := by
  have cs := F.called_set
  obtain ⟨c, tl, hmro⟩ := cs.mro
  have hmade := cs.made; have hsub := cs.sub
  refine wpAny_call (codeAny_of_tree ?_); show wpAny _ _ (callAny (.type "set") _) _ _ _
  refine wpAny_pure ⟨Code.quiet_builtin _ (by decide +kernel), codeAny_builtin F.entry_type_call ?_⟩
  rw [Around.under_plain (weight_type_call_type "set" [.ref l] []) rfl]
  have h1 := cs.notType; have h2 := cs.canCreate; have hct := F.typeCall_set_1 (.ref l)
  repeat (any_goals (first | assumption | wp_step))
  refine codeAny_mono (code_set_led1 (.ref l) (E := E) (Q₁ := fun obj s₁ => obj = .ref s.heap.objs.size ∧ s₁ = { s with heap := s.heap.push (set0 w) }) ⟨rfl, rfl⟩) fun r s₁ hr => ?_
  cases r with
  | error e => exact hr
  | ok fl =>
    cases fl with
    | ret obj =>
      obtain ⟨rfl, rfl⟩ := hr
      have hS : (s.heap.push (set0 w)).get? s.heap.objs.size = some (set0 w) := Heap.get?_push_size _ rfl
      have hT : Shared.TypeIs { s with heap := s.heap.push (set0 w) } (.ref s.heap.objs.size) "set" := ⟨_, hS, rfl⟩
      have hli := cs.init.lookup; have hbi := cs.init.bind (.ref s.heap.objs.size)
      repeat (any_goals (first | assumption | wp_step))
      refine codeAny_mono (codeAny_call_builtin (R := wants (fun r s₂ => r = .none ∧ ∃ h' tk, s₂ = { s with heap := h', toks := tk } ∧ T h' ∧ ∀ b o, s.heap.get? b = some o → h'.get? b = some o) E) cs.init.plain F.entry_set_init (check_set_init_1 hT ?_)) fun r₂ s₂ hr₂ => ?_
      · have hl0 := hl
        obtain ⟨ol, hol, hcl, nl, hdl⟩ := hl
        obtain ⟨ocls, odict, odata, oslots⟩ := ol
        simp only at hcl hdl
        subst hcl; subst hdl
        have hol' : (s.heap.push (set0 w)).get? l = some { cls := .type "list", dict := odict, data := .seq items nl, slots := oslots } := Heap.get?_push_of_some _ hol
        have hsls := F.sub_list_set; have hslf := F.sub_list_frozenset
        have hne : (Value.type "list" == Value.type "dict") = false := by decide
        have hl1 : (s.heap.push (set0 w)).IsList l items := ⟨_, hol', rfl, nl, rfl⟩
        unfold Builtin.«set.__init__» noKeywords Builtin.Frozenset.updateFrom
        generalize hPI : pyIter = PI
        wp_walk
        subst hPI
        refine wpAny_pyIter_list hl1 ?_
        refine wpAny_bind (wpAny_runValue ?_)
        have hz1 : (s.heap.push (set0 w)).objs.size = s.heap.objs.size + 1 := Heap.size_push ..
        rw [hz1]
        refine loop _ (hl1.push _) fun s' hm ht => ?_
        obtain ⟨h', g2, d', tk', os'⟩ := s'
        have eg : g2 = s.gens := hm.gens
        have ed : d' = s.drawn := hm.drawn
        have eo : os' = s.os := hm.os
        subst eg; subst ed; subst eo
        refine wpAny_pure (show wpAny _ _ (ret Value.none) _ _ _ from wpAny_pure ⟨rfl, h', tk', rfl, ht, fun b o e => ?_⟩)
        have hb0 : b < s.heap.objs.size := Heap.lt_size e
        refine hm.heap b o (fun z => ?_) (Heap.get?_push_of_some _ (Heap.get?_push_of_some _ e))
        simp only [List.mem_cons, List.not_mem_nil, or_false] at z
        rcases z with z | z
        · rw [z] at hb0; exact Nat.lt_irrefl _ hb0
        · rw [z] at hb0; exact Nat.lt_irrefl _ (Nat.lt_of_succ_lt hb0)
      · cases r₂ with
        | error e => exact hr₂
        | ok fl₂ =>
          cases fl₂ with
          | ret r =>
            obtain ⟨rfl, h', tk, rfl, ht, hk'⟩ := hr₂
            repeat (any_goals (first | assumption | wp_step))
            exact h _ _ ht hk'
          | _ => exact hr₂.elim
    | _ => exact hr.elim
theorem set_ints {l : Addr} {items : Array Value} (ns : List Int) {Q : Value → Shared → Prop} (hh : A.handled = none) (hl : s.heap.IsList l items) (hit : IntsAre items.toList ns) (hb : ns.length + 1 < scanBound)
    (h : ∀ (h' : Heap) (tk c : Nat), SetR w h' s.heap.objs.size (fun j => decide (j ∈ ns)) c → (∀ b o, s.heap.get? b = some o → h'.get? b = some o) → Q (.ref s.heap.objs.size) { s with heap := h', toks := tk }) :
    wpAny (model P w) A (call (.type "set") [.ref l]) Q E s := by
  have hisz : items.size = ns.length := by
    have q := IntsAre.length hit
    rwa [Array.length_toList] at q
  have hz1 : (s.heap.push (set0 w)).objs.size = s.heap.objs.size + 1 := Heap.size_push ..
  have hlS : l < s.heap.objs.size := by obtain ⟨ol, hol, _⟩ := hl; exact Heap.lt_size hol
  refine set_made (T := fun h' => ∃ c, SetR w h' s.heap.objs.size (fun j => decide (j ∈ ns)) c) hh hl (fun R hl2 hR => ?_) fun h' tk ⟨c, hc⟩ hk => h h' tk c hc hk
  have hh3 : A.in1.in1.in1.handled = none := by simp [hh]
  refine set_update_ints ((Walks.list hh3 (s.heap.objs.size + 1) l (Nat.ne_of_lt (Nat.lt_succ_of_lt hlS)) items).toS) s.heap.objs.size ?_ ns hisz hb (fun i v hv => ?_) (items.size - 0) 0 _ (by omega) (Nat.zero_le _) ⟨⟨lit0 l, ?_, rfl, rfl⟩, hl2⟩ ⟨0, Nat.le_refl 0, setR_new_at ?_⟩ fun s' c hm _ hS => hR s' hm ⟨c, hS⟩
  · simp only [List.mem_cons, List.not_mem_nil, or_false, not_or]; exact ⟨Nat.ne_of_lt (Nat.lt_succ_self _), Nat.ne_of_gt hlS⟩
  · have hi : i < ns.length := by rw [← hisz]; exact (Array.getElem?_eq_some_iff.mp hv).1
    obtain ⟨t, e⟩ := IntsAre.int_at hit i v (by rw [Array.getElem?_toList]; exact hv)
    refine ⟨ns[i], t, List.getElem?_eq_getElem hi, ?_⟩
    rw [e, List.getD_eq_getElem?_getD, List.getElem?_eq_getElem hi]; rfl
  · rw [← hz1]; exact Heap.get?_push_size _ rfl
  · exact Heap.get?_push_of_some _ (Heap.get?_push_size _ rfl)
end
end DL
end
section
set_option maxHeartbeats 0
namespace DL
open PySem PySem.Spec PyProof.Rows L2
section
variable {P : Program} {w : World} {A : Around} {E : Value → Shared → Prop} {s : Shared}
theorem set_sorted {a : Addr} {es : Array (Int × Value)} {ep : Nat} {t : SetTable} {ltv : Value → Value → Bool} {Q : Value → Shared → Prop} (O : SrtO.Swo ltv) (hh : A.handled = none) (ha : SetAt s.heap a es ep t) (hf : t.fits es.size = true) (hb : es.size < scanBound) (hr : Ris t.place.toList) (hl : w.params.followText "set-order" = true ∨ t.led = true)
    (hS : ∀ (vs : List Value) (s1 : Shared) (q : Addr), vs.Perm (es.toList.map (·.2)) → 2 ≤ vs.length → s1.heap.get? q = some (seqObj "list" vs.toArray 0) → (∀ b o, s.heap.get? b = some o → b ≠ q ∧ s1.heap.get? b = some o) → SrtO.SortableO P w A.in1.in1 s1 q vs ltv)
    (hQ : ∀ (s' : Shared) (p : Addr) (out : List Value) (c : Nat), (∀ b o, s.heap.get? b = some o → s'.heap.get? b = some o) → s'.gens = s.gens → s'.os = s.os → s.heap.objs.size ≤ p → s'.heap.get? p = some (seqObj "list" out.toArray c) → SrtO.Srtd ltv out → out.Perm (es.toList.map (·.2)) → Q (.ref p) s') :
    wpAny (model P w) A (call (.builtin "sorted") [.ref a]) Q E s := by
  refine Calls.call_function_entry kind_sorted plain_sorted entry_sorted (args_sorted1 _) ?_
  unfold Builtin.«sorted»
  refine wpAny_bind (m := checkCount "sorted" 1 1 _) (wpAny_pure (wpAny_bind (collect_set (A := A.in1) hh ha hf hb hr hl fun s1 vs k1 hz g1 o1 pm => ?_)))
  have hvl : vs.length ≤ sizeLine := by
    rw [pm.length_eq, List.length_map, Array.length_toList]; exact fits_of_scanBound hb
  refine wpAny_bind (wpAny_newList ?_ hvl)
  have hoL : (s1.heap.push (seqObj "list" vs.toArray 0)).get? s1.heap.objs.size = some (seqObj "list" vs.toArray 0) := Heap.get?_push_size _ rfl
  have kp : ∀ b o, s.heap.get? b = some o → b ≠ s1.heap.objs.size ∧ (s1.heap.push (seqObj "list" vs.toArray 0)).get? b = some o := fun b o e =>
    ⟨Nat.ne_of_lt (Heap.lt_size (k1 b o e)), Heap.get?_push_of_some _ (k1 b o e)⟩
  refine wpAny_bind (wpAny_holding (wpAny_call_entry slot_list_sort ⟨_, hoL, rfl⟩ entry_list_sort (SrtO.list_sort_ord O hoL hvl (fun h2 => hS vs _ _ pm h2 hoL kp) fun out hs hb => ⟨_, rfl, ?_⟩) (args_list_sort _)))
  obtain ⟨c, hc⟩ := sortedHeap_at (vs := vs) (out := out.toArray) hoL
  refine wpAny_pure ⟨_, rfl, hQ _ s1.heap.objs.size out c (fun b u e => ?_) g1 o1 hz hc hs (hb.perm.trans pm)⟩
  have hlt := Heap.lt_size (k1 b u e)
  show (sortedHeap (s1.heap.push (seqObj "list" vs.toArray 0)) s1.heap.objs.size vs out.toArray).get? b = some u
  rw [sortedHeap_old (Nat.ne_of_lt hlt) (by rw [size_push']; exact Nat.lt_succ_of_lt hlt)]
  exact (kp b u e).2
theorem iv_re {v : Value} (h : ∃ k t, v = Value.int k t) : ∀ e : Int × Value, e.2 = v → keyOf e = SrtO.iv v := by
  obtain ⟨k, t, rfl⟩ := h
  intro e he
  unfold keyOf
  rw [he]; rfl
theorem sorted_setI {a : Addr} {S : Int → Bool} {n : Nat} {Q : Value → Shared → Prop} (R : SetR w s.heap a S n) (hh : A.handled = none)
    (hQ : ∀ (s' : Shared) (p : Addr) (out : List Value) (c : Nat) (ns : List Int), (∀ b o, s.heap.get? b = some o → s'.heap.get? b = some o) → s'.gens = s.gens → s'.os = s.os → s.heap.objs.size ≤ p →
      s'.heap.get? p = some (seqObj "list" out.toArray c) → IntsAre out ns → ns.Pairwise (· < ·) → (∀ k, k ∈ ns ↔ S k = true) → ns.length ≤ scanBound → Q (.ref p) s') :
    wpAny (model P w) A (call (.builtin "sorted") [.ref a]) Q E s := by
  obtain ⟨o, es, ep, t, ho, hex, hd, g, nd, hm, hb, hf, hn, hr, hl⟩ := R
  have hall : ∀ v ∈ es.toList.map (·.2), ∃ k t, v = Value.int k t := fun v hv => by
    obtain ⟨e, he, rfl⟩ := List.mem_map.mp hv
    obtain ⟨k, t, h1, _⟩ := g e he
    exact ⟨k, t, h1⟩
  have hI : ∀ vs : List Value, vs.Perm (es.toList.map (·.2)) → IntsAre vs (vs.map SrtO.iv) := fun vs pm => SrtO.ints_iv fun v hv => hall v (pm.mem_iff.mp hv)
  refine set_sorted SrtO.swo_int hh ⟨o, ho, hex.1, hd⟩ hf hb hr hl (fun vs s1 q pm h2 _ _ => SrtO.ints_sortable (hI vs pm) h2) fun s' p out c k g1 o1 hz hc hs pm => ?_
  have pk : (out.map SrtO.iv).Perm (es.toList.map keyOf) := by
    have q := pm.map SrtO.iv
    rw [List.map_map] at q
    have e : es.toList.map (SrtO.iv ∘ fun x => x.2) = es.toList.map keyOf := List.map_congr_left fun e he => (iv_re (hall e.2 (List.mem_map.mpr ⟨e, he, rfl⟩)) e rfl).symm
    rw [e] at q
    exact q
  refine hQ s' p out c (out.map SrtO.iv) k g1 o1 hz hc (hI out pm) (lt_of_le_nodup _ (SrtO.ints_out (hI out pm) hs (SrtO.Stb.refl _)).2.2 (pk.nodup_iff.mpr nd)) (fun j => by rw [pk.mem_iff, ← hm j]) ?_
  rw [pk.length_eq, List.length_map, Array.length_toList]; exact Nat.le_of_lt hb
end
section
variable {X : Cx}
def tSrtSetI (K : PySem.W.Frag) (ta : TE) : TE := fun σ H Q => ta σ H fun x H1 => ∃ (l : Addr) (ns : List Int), x = .ref l ∧ SqL K H1 l (ns.map V.int) ∧ ns.length + 1 < 4096 ∧
  ∀ (ns' : List Int) (p : Addr), ns'.Pairwise (· < ·) → (∀ k, k ∈ ns' ↔ k ∈ ns) → H1 p = none → Q (.ref p) (upd H1 p (.lst (ns'.map V.int)))
theorem pe_srtSetI {a : Expr} {ta : TE} {p p2 q pos : Pos} (hc : X.calm = true) (hg : Gl X "sorted") (hm : X.mg "sorted" = none) (hg2 : Gl X "set") (hm2 : X.mg "set" = none) (ha : PE X a ta)
    (na : starEach [a] X.env = (false, eval a X.env) :: starEach [] X.env := by rfl) : PE X (.Call (.Name "sorted" p) [.Call (.Name "set" p2) [a] [] q] [] pos) (tSrtSetI X.K ta) := by
  refine ⟨fun pins s σ H Q I h => ?_⟩
  refine Call_ (ld_blt I hg hm PyProof.Rows.boot_sorted (PyProof.Rows.callWith_builtin1 (PyProof.Rows.args_cons ?_ rfl) rfl rfl))
  refine Call_ (ld_blt I hg2 hm2 PyProof.Rows.boot_set (PyProof.Rows.callWith_type1 (PyProof.Rows.args_cons (thn (ha.run pins s σ H _ I h) fun v s1 ⟨x, H1, I1, r1, q1⟩ => PyProof.Rows.args_nil ?_) na) na rfl))
  obtain ⟨l, ns, rfl, hq, hl, q1⟩ := q1
  cases r1
  obtain ⟨its, r, pl, hz⟩ := I1.list hq
  refine set_ints ns (I1.ok.hd hc) pl.isList (by simpa using r.ints) (by unfold scanBound; exact hl) fun h' tk c hS hk => ?_
  refine PyProof.Rows.args_nil ?_
  refine sorted_setI (s := { s1 with heap := h', toks := tk }) hS (I1.ok.hd hc) fun s' p out c ns' k g o hp hg hi hs hm hl => ?_
  have hlen : (ns'.map V.int).length ≤ sizeLine := by rw [List.length_map, sizeLine_eq]; unfold scanBound at hl; omega
  have k2 : ∀ b u, s1.heap.get? b = some u → s'.heap.get? b = some u := fun b u e => k b u (hk b u e)
  have hp1 : s1.heap.objs.size ≤ p := by
    obtain ⟨o, _, _, _, ho, _⟩ := hS
    exact Nat.le_trans (Nat.le_of_lt (Heap.lt_size ho)) hp
  have hn : H1 p = none := I1.hok.fresh hp1
  have J : Inv X pins σ (upd H1 p (.lst (ns'.map V.int))) { s1 with heap := s'.heap, gens := s'.gens, drawn := s'.drawn, toks := s'.toks } :=
    I1.call (ch := []) (Un.laid k2 hp1 hn) (I1.hok.laid k2 hp1 ⟨hlen, out, c, vals_of_ints hi, hg⟩) (by rw [g]; exact I1.bare) (fun _ z => nomatch z)
  have e : s' = { s1 with heap := s'.heap, gens := s'.gens, drawn := s'.drawn, toks := s'.toks } := by
    cases s'; cases s1; cases o; rfl
  rw [e]
  refine ⟨.ref p, _, J, rfl, q1 ns' p hs (fun k => ?_) hn⟩
  rw [hm k, decide_eq_true_eq]
def wSrtSetI (b : Bool) (a : WE) : WE := fun r m R x => a r m (fun u m1 => ∃ ns : List Int, asL m1 u = some (ns.map .int) ∧ ns.length < 4000 ∧ ∀ ns' : List Int, ns'.Pairwise (· < ·) → (∀ k, k ∈ ns' ↔ k ∈ ns) → wNw b (ns'.map .int) m1 R) x
theorem pd_srtSetI {W : WX} {b : Bool} {a : Expr} {fa : WE} {p p2 q pos : Pos} (hc : X.calm = true) (hg : Gl X "sorted") (hm : X.mg "sorted" = none) (hg2 : Gl X "set") (hm2 : X.mg "set" = none) (ha : PE X a (up X.K W fa))
    (na : starEach [a] X.env = (false, eval a X.env) :: starEach [] X.env := by rfl) : PE X (.Call (.Name "sorted" p) [.Call (.Name "set" p2) [a] [] q] [] pos) (up X.K W (wSrtSetI b fa)) := PE.imp (pe_srtSetI hc hg hm hg2 hm2 ha na) fun σ H Q h => by
  obtain ⟨B, ρ, m, R, x, er, S, h, t, tx⟩ := h
  refine ⟨B, ρ, m, _, x, er, S, h, fun B1 d m1 u H1 s1 S1 f1 p1 q1 => ?_, tx⟩
  obtain ⟨ns, h1, hl, h2⟩ := q1
  obtain ⟨a, vs, rfl, ha, pa⟩ := seqL S1 p1 h1
  rw [ints_dp pa] at ha
  exact ⟨a, ns, rfl, .inl (.inl ha), by omega, fun ns' q z1 z2 nq => eff_nw S1 (t.step s1 f1) (dp_ints ns') (h2 ns' z1 z2) q nq⟩
end
end DL
end
section
set_option maxHeartbeats 0
namespace DL
open PySem PySem.Spec PyProof.Rows L2
theorem tup_mul1 (l : Addr) (items : Array Value) (n : Nat) (dd : Option Addr) (sl : Array (Option Value)) (x : Int) (u : Tok) (c0 : (decide (x < -(2 ^ 63)) || decide (x ≥ 2 ^ 63)) = false) (c1 : (items.isEmpty || x == 1) = true) :
    Meets (Builtin.«tuple.__mul__» ⟨[.ref l, .int x u], []⟩) (fun _ R s => s.heap.get? l = some { cls := .type "tuple", dict := dd, data := .seq items n, slots := sl } ∧ R (.ok (.ret (Value.ref l))) s) :=
  .of_wp fun prog w A R s h => by
    obtain ⟨hp, g, d, tk, os⟩ := s
    obtain ⟨hl, h⟩ := h
    have f1 := AutoSeq1.idx_int
    wp_walk using wpAny_loadPart' hl
    repeat (first
      | (refine wpAny_ite_false (decide_eq_false (by rw [c0]; exact Bool.false_ne_true)) ?_; wp_walk using wpAny_loadPart' hl)
      | (refine wpAny_ite_true (decide_eq_true (by rw [c1])) ?_; wp_walk using wpAny_loadPart' hl))
    exact ⟨_, rfl, h⟩
theorem tup_mul0 (l : Addr) (items : Array Value) (n : Nat) (dd : Option Addr) (sl : Array (Option Value)) (x : Int) (u : Tok) (c0 : (decide (x < -(2 ^ 63)) || decide (x ≥ 2 ^ 63)) = false) (c1 : (items.isEmpty || x == 1) = false) (c2 : (decide (x ≤ 0) || items.isEmpty) = true) :
    Meets (Builtin.«tuple.__mul__» ⟨[.ref l, .int x u], []⟩) (fun _ R s => s.heap.get? l = some { cls := .type "tuple", dict := dd, data := .seq items n, slots := sl } ∧ R (.ok (.ret (Value.ref s.heap.objs.size))) { s with heap := s.heap.push { cls := Value.type "tuple", data := Data.seq #[] }, toks := s.toks }) :=
  .of_wp fun prog w A R s h => by
    obtain ⟨hp, g, d, tk, os⟩ := s
    obtain ⟨hl, h⟩ := h
    have f1 := AutoSeq1.idx_int
    wp_walk using wpAny_loadPart' hl
    repeat (first
      | (refine wpAny_ite_false (decide_eq_false (by rw [c0]; exact Bool.false_ne_true)) ?_; wp_walk using wpAny_loadPart' hl)
      | (refine wpAny_ite_false (decide_eq_false (by rw [c1]; exact Bool.false_ne_true)) ?_; wp_walk using wpAny_loadPart' hl)
      | (refine wpAny_ite_true (decide_eq_true (by rw [c2])) ?_; wp_walk using wpAny_loadPart' hl))
    exact ⟨_, rfl, h⟩
def rMulT (K : PySem.W.Frag) : R2 := fun x y H Q => ∃ l k xs, x = .ref l ∧ y = .int k ∧ SqT K H l xs ∧ 0 ≤ k ∧ k ≤ 100000 ∧ xs.length ≤ 100 ∧ ((xs = [] ∨ k = 1) → Q (.ref l) H) ∧ (¬ (xs = [] ∨ k = 1) → ∀ p, H p = none → Q (.ref p) (upd H p (.tup (List.replicate k.toNat xs).flatten)))
section
variable {X : Cx}
theorem op_mulT : OpR X (binaryOp .Mult) (rMulT X.K) := by
  intro pins s σ H x y v u Q I rx ry h
  obtain ⟨l, k, xs, rfl, rfl, hT, h1, h2, hz, q1, q2⟩ := h
  cases rx
  obtain ⟨t, rfl⟩ := ry
  obtain ⟨its, r, ⟨⟨cls, dd, data, sl⟩, ho, hc, n, hd⟩, hs⟩ := I.tuple hT
  simp only at hc hd
  subst hc hd
  have hle : its.length = xs.length := r.length.symm
  have c0 : (decide (k < -(2 ^ 63)) || decide (k ≥ 2 ^ 63)) = false := by rw [decide_eq_false (by omega), decide_eq_false (by omega)]; rfl
  have he : its.toArray.isEmpty = decide (xs = []) := by
    cases its with
    | nil => simp at hle; simp [List.eq_nil_of_length_eq_zero hle.symm]
    | cons a b => cases xs with
      | nil => simp at hle
      | cons c d => simp
  have go : ∀ {R : Result → Shared → Prop} {F : Shared → Prop}, Meets (Builtin.«tuple.__mul__» ⟨[.ref l, .int k t], []⟩) (fun _ R s => s.heap.get? l = some { cls := .type "tuple", dict := dd, data := .seq its.toArray n, slots := sl } ∧ R (.ok (.ret (Value.ref l))) s) → True := fun _ => trivial
  by_cases hk : xs = [] ∨ k = 1
  · have c1 : (its.toArray.isEmpty || k == 1) = true := by rw [he]; rcases hk with e | e <;> simp [e]
    refine wpAny_binaryOp_repeat_ref (T := "tuple") (U := "int") (by decide) ⟨_, ho, rfl⟩ (fun s' => typeIs_int s' k t) noFill_tuple_mul F.fills_int_mul F.slot_int_rmul repeat_tuple F.slot_int_index.lookup
      (call_meets F.slot_int_rmul (typeIs_int s k t) F.entry_int_rmul (F.args_int_rmul_2 _ _) (int_rmul_tuple k t l its.toArray n dd sl)
        ⟨ho, rfl, ⟨_, ho, rfl⟩, call_meets F.slot_tuple_mul ⟨_, ho, rfl⟩ F.entry_tuple_mul (F.args_tuple_mul_2 _ _) (tup_mul1 l its.toArray n dd sl k t c0 c1) ⟨ho, ?_⟩⟩)
    exact ⟨.ref l, H, I, rfl, q1 hk⟩
  · have c1 : (its.toArray.isEmpty || k == 1) = false := by rw [he]; simp at hk; simp [hk]
    have hne : its.toArray.isEmpty = false := by rw [he]; simp at hk; simp [hk.1]
    have kz : k.toNat * xs.length ≤ 100000 * 100 := Nat.mul_le_mul (by omega) hz
    have hlay : ∀ a : Array Value, a = (List.replicate k.toNat its).flatten.toArray → EP X pins σ Q (.ref s.heap.objs.size) { s with heap := s.heap.push { cls := Value.type "tuple", data := Data.seq a }, toks := s.toks } := by
      rintro a rfl
      refine ⟨.ref s.heap.objs.size, _, I.laid (t' := s.toks) (o := .tup (List.replicate k.toNat xs).flatten) (fun b ob q => Heap.get?_push_of_some _ q) (Nat.le_refl _) ?_, rfl, q2 hk _ (I.hok.fresh (Nat.le_refl _))⟩
      exact ⟨by rw [PyProof.Rows.lm_len_rep_flat, sizeLine_eq]; omega, _, r.rep k.toNat, IsTup.new _ _⟩
    by_cases k0 : k = 0
    · have c2 : (decide (k ≤ 0) || its.toArray.isEmpty) = true := by simp [k0]
      refine wpAny_binaryOp_repeat_ref (T := "tuple") (U := "int") (by decide) ⟨_, ho, rfl⟩ (fun s' => typeIs_int s' k t) noFill_tuple_mul F.fills_int_mul F.slot_int_rmul repeat_tuple F.slot_int_index.lookup
        (call_meets F.slot_int_rmul (typeIs_int s k t) F.entry_int_rmul (F.args_int_rmul_2 _ _) (int_rmul_tuple k t l its.toArray n dd sl)
          ⟨ho, rfl, ⟨_, ho, rfl⟩, call_meets F.slot_tuple_mul ⟨_, ho, rfl⟩ F.entry_tuple_mul (F.args_tuple_mul_2 _ _) (tup_mul0 l its.toArray n dd sl k t c0 c1 c2) ⟨ho, ?_⟩⟩)
      exact hlay #[] (by rw [k0]; rfl)
    · have c2 : (decide (k ≤ 0) || its.toArray.isEmpty) = false := by rw [hne, Bool.or_false]; exact decide_eq_false (by omega)
      have hm : ((its.toArray.size : Nat) : Int) * k ≤ 10000000 := by
        rw [List.size_toArray, hle]
        have a1 : ((xs.length : Nat) : Int) * k ≤ 100 * k := Int.mul_le_mul_of_nonneg_right (by omega) (by omega)
        omega
      have c4 : Builtin.Tuple.tupleTooMany (((its.toArray.size : Nat) : Int) * k) = false := by
        unfold Builtin.Tuple.tupleTooMany; rw [sizeLine_eq]; exact decide_eq_false (by omega)
      refine wpAny_binaryOp_repeat_ref (T := "tuple") (U := "int") (by decide) ⟨_, ho, rfl⟩ (fun s' => typeIs_int s' k t) noFill_tuple_mul F.fills_int_mul F.slot_int_rmul repeat_tuple F.slot_int_index.lookup
        (call_meets F.slot_int_rmul (typeIs_int s k t) F.entry_int_rmul (F.args_int_rmul_2 _ _) (int_rmul_tuple k t l its.toArray n dd sl)
          ⟨ho, rfl, ⟨_, ho, rfl⟩, call_meets F.slot_tuple_mul ⟨_, ho, rfl⟩ F.entry_tuple_mul (F.args_tuple_mul_2 _ _) (tuple_mulW l its.toArray n dd sl k t c0 c1 c2 (by omega) c4 (by rw [size_rep, List.size_toArray, PyProof.Rows.lm_len_rep_flat, hle, sizeLine_eq]; omega)) ⟨ho, ?_⟩⟩)
      exact hlay _ (size_rep _ _)
theorem mulT_ : OpD X (binaryOp .Mult) wMulT := by
  refine ⟨_, op_mulT, fun B u v d e p q H m R Q S h t => ?_⟩
  cases p with
  | tup h1 h2 => cases q with
    | int k =>
      rename_i a vs ds
      obtain ⟨k0, k1, hl, hR⟩ := h
      have eq : h2.length = h2.length := rfl
      refine ⟨a, k, vs, rfl, rfl, sqT_mono S.same h1, k0, k1, by rw [h2.length]; exact hl, fun z => ?_, fun _ => eff_tup S t (h2.rep _) hR⟩
      have e1 : repD k.toNat ds = ds := by
        rcases z with z | z
        · subst z; cases h2; simp [repD]
        · subst z; simp [repD]
      rw [e1] at hR
      exact eff_ret S t (.tup h1 h2) hR
    | _ => exact h.elim
  | _ => exfalso; cases q <;> exact h
end
end DL
end
section
set_option maxHeartbeats 0
namespace DL
open PySem
structure Ad where
  xInkError : Addr
  xNoMachine : Addr
  xNoKeys : Addr
  xNoKey : Addr
  xNoPlace : Addr
  xNoGoal : Addr
  xNoStrikes : Addr
  xNoText : Addr
  xNoNumbers : Addr
  xTooWide : Addr
  xNothing : Addr
  cMachine : Addr
  cTypist : Addr
  cHand : Addr
  fn : String → Addr
def Ad.cls (A : Ad) : List Addr := [A.xNoMachine, A.xNoKeys, A.xNoKey, A.xNoPlace, A.xNoGoal, A.xNoStrikes, A.xNoText, A.xNoNumbers, A.xTooWide, A.xNothing]
structure AdOk (A : Ad) : Prop where
  nd : A.cls.Nodup
def tabE (A : Ad) (k : Nat) : D → Option Bool
  | .ref a => if a ∈ A.cls then some (decide (A.cls[k]? = some a)) else none
  | .ty n => if n = "ValueError" then some true else none
  | _ => none
def refD (k : Nat) : D := .tup [.str (PySem.Str.ofString "refused"), .int k]
def G_LETTERS : Str := PySem.Str.ofString "abcdefghijklmnopqrstuvwxyz"
def G_GREAT : Str := PySem.Str.ofString "ABCDEFGHIJKLMNOPQRSTUVWXYZ"
def G_FIGURES : Str := PySem.Str.ofString "0123456789"
def G_DEAD : Str := PySem.Str.ofString "'^~"
def G_SIGNS : Str := PySem.Str.ofString "abcdefghijklmnopqrstuvwxyz0123456789.,-'^~"
def wordD (s : String) : D := .str (PySem.Str.ofString s)
def G_MOVES : List D := ["blank", "half", "back", "tab", "return", "up", "down"].map wordD
def G_TURNS : List D := ["left", "right", "set", "clear", "all", "free", "ribbon", "caps"].map wordD
def G_COLOURS : List D := ["black", "red"].map wordD
structure ExG (K : PySem.W.Frag) (mg : Str → Option Value) (x : Str) (C : Addr) : Prop where
  g : mg x = some (.ref C)
def phL : FW := fun ds m R _ => ∃ ns : List Int, ds = [.scr ns] ∧ ns.length ≤ 63 ∧ m = (fun _ => none) ∧ ∀ m', R (.bl true) m'
def spT (K : PySem.W.Frag) : L2.Sp := fun vs H Q _ => ∃ (a : Addr) (ns : List Int), vs = [.ref a] ∧ L2.SqL K H a (ns.map L2.V.int) ∧ ns.length ≤ 63 ∧ ∀ H', Q (.bl true) H'
theorem sp_phL {K : PySem.W.Frag} {vs : List L2.V} {H : L2.Hp} {Q : L2.VK} {E : L2.XK} (h : spT K vs H Q E) : spD K 1 phL vs H Q E := by
  obtain ⟨a, ns, rfl, hs, hl, q⟩ := h
  refine ⟨H, [.scr ns], fun _ => none, fun d _ => d = .bl true, fun _ _ => False, rfl, .cons (.scr hs) .nil, ⟨fun _ _ e => e, fun _ _ e => nomatch e⟩, ⟨ns, rfl, hl, rfl, fun _ => rfl⟩, fun B' d m' v H' _ _ _ p e => ?_, fun _ _ _ _ _ _ _ z => z.elim⟩
  subst e
  cases p
  exact q H'
theorem cx_no {P : Program} {w : World} {H : L2.Hp} {s s' : Shared} {e : Value} (h : L2N.CX P w [] H s (fun _ _ _ => False) e s') : False := by
  obtain ⟨_, _, _, _, _, _, _, _, _, _, _, _, z⟩ := h
  exact z.elim
theorem tabE_ok {K : PySem.W.Frag} {A : Ad} {Dc : Addr} {k : Nat} (nd : A.cls.Nodup) (h : ∀ i a, A.cls[i]? = some a → PySem.W.kitOne K (.ref Dc) (.ref a) = some (decide (k = i))) (hv : PySem.W.kitOne K (.ref Dc) (.type "ValueError") = some true) : ∀ c v, tabE A k c = some v → ∃ u, clsVal c = some u ∧ PySem.W.kitOne K (.ref Dc) u = some v := by
  intro c v e
  cases c with
  | ref a =>
    simp only [tabE] at e
    split at e
    · rename_i hm
      obtain ⟨i, hi, ei⟩ := List.getElem_of_mem hm
      have e1 : A.cls[i]? = some a := by rw [List.getElem?_eq_getElem hi, ei]
      have h1 := h i a e1
      cases e
      refine ⟨_, rfl, ?_⟩
      rw [h1]
      congr 1
      by_cases hk : k = i
      · subst hk; rw [e1]; simp
      · have : A.cls[k]? ≠ some a := fun z => by
          have hl : k < A.cls.length := by
            rcases Nat.lt_or_ge k A.cls.length with y | y
            · exact y
            · rw [List.getElem?_eq_none y] at z; cases z
          exact hk ((List.getElem?_inj hl nd).mp (by rw [z, e1]))
        simp [hk, this]
    · cases e
  | ty n =>
    simp only [tabE] at e
    split at e
    · rename_i hn; subst hn; cases e; exact ⟨_, rfl, hv⟩
    · cases e
  | _ => cases e
theorem dp_words {K : PySem.W.Frag} {B : L2.Hp} : ∀ ws : List String, DpAll K B (ws.map fun s => L2.V.str (PySem.Str.ofString s)) (ws.map wordD)
  | [] => .nil
  | w :: ws => .cons (.str _) (dp_words ws)
end DL
end
section
set_option maxHeartbeats 0
namespace DL
open PySem
section
variable (r : Env) (m : Store) (R : KD) (x : XD) (k : SK)
@[simp] theorem e_var (i : Nat) : wVar i r m R x = ok (get r i) fun d => R d m := rfl
@[simp] theorem e_c (d : D) : wC d r m R x = R d m := rfl
@[simp] theorem e_op (w : W2) (a b : WE) : wOp w a b r m R x = a r m (fun u m1 => b r m1 (fun v m2 => w u v m2 R) x) x := rfl
@[simp] theorem e_un (w : W1) (a : WE) : wUn w a r m R x = a r m (fun u m1 => w u m1 R) x := rfl
@[simp] theorem e_nil (R : List D → Store → Prop) : wNil r m R x = R [] m := rfl
@[simp] theorem e_cons (a : WE) (b : WA) (R : List D → Store → Prop) : wCons a b r m R x = a r m (fun u m1 => b r m1 (fun us m2 => R (u :: us) m2) x) x := rfl
@[simp] theorem e_tup (a : WA) : wTup a r m R x = a r m (fun us m1 => us.length ≤ LIM ∧ R (.tup us) m1) x := rfl
@[simp] theorem e_lst (b : Bool) (a : WA) : wLst b a r m R x = a r m (fun us m1 => us.length ≤ LIM ∧ wNw b us m1 R) x := rfl
@[simp] theorem e_nwF (ds : List D) : wNw false ds m R = R (.lst ds) m := rfl
@[simp] theorem e_nwT (ds : List D) : wNw true ds m R = ∀ a, m a = none → R (.ref a) (sup m a (.lst ds)) := rfl
@[simp] theorem e_callB (w : WL) (a : WA) : wCallB w a r m R x = a r m (fun us m1 => w us m1 R) x := rfl
@[simp] theorem e_call (n : Nat) (f : FW) (a : WA) : wCall n f a r m R x = a r m (fun us m1 => us.length = n ∧ f us m1 R x) x := rfl
@[simp] theorem e_if (t : WT) (a b : WE) : wIf t a b r m R x = t r m (fun c m1 => if c = true then a r m1 R x else b r m1 R x) x := rfl
@[simp] theorem e_test (a : WE) (R : Bool → Store → Prop) : wTest a r m R x = a r m (fun u m1 => match u with | .bl b => R b m1 | _ => False) x := rfl
@[simp] theorem e_and (a b : WT) (R : Bool → Store → Prop) : wAnd a b r m R x = a r m (fun c m1 => if c = true then b r m1 R x else R false m1) x := rfl
@[simp] theorem e_or (a b : WT) (R : Bool → Store → Prop) : wOr a b r m R x = a r m (fun c m1 => if c = true then R true m1 else b r m1 R x) x := rfl
@[simp] theorem e_not (a : WT) (R : Bool → Store → Prop) : wNot a r m R x = a r m (fun c m1 => R (!c) m1) x := rfl
@[simp] theorem e_yes (R : Bool → Store → Prop) : wYes r m R x = R true m := rfl
@[simp] theorem e_notV (a : WE) : wNotV a r m R x = a r m (fun u m1 => match u with | .bl k => R (.bl (!k)) m1 | _ => False) x := rfl
@[simp] theorem e_andV (a b : WE) : wAndV a b r m R x = a r m (fun u m1 => match u with | .bl true => b r m1 R x | .bl false => R (.bl false) m1 | _ => False) x := rfl
@[simp] theorem e_orV (a b : WE) : wOrV a b r m R x = a r m (fun u m1 => match u with | .bl true => R (.bl true) m1 | .bl false => b r m1 R x | _ => False) x := rfl
@[simp] theorem e_chain (w w' : W2) (a b c : WE) : wChain w w' a b c r m R x = a r m (fun u m1 => b r m1 (fun v m2 => w u v m2 fun z m3 => match z with
  | .bl true => c r m3 (fun y m4 => w' v y m4 R) x
  | .bl false => R (.bl false) m3
  | _ => False) x) x := rfl
@[simp] theorem e_oNone (R : Option Int → Store → Prop) : oNone r m R x = R none m := rfl
@[simp] theorem e_oSome (a : WE) (R : Option Int → Store → Prop) : oSome a r m R x = a r m (fun u m1 => match u with | .int i => R (some i) m1 | _ => False) x := rfl
@[simp] theorem e_sl (w : WSl) (a : WE) (l h : WO) : wSl w a l h r m R x = a r m (fun u m1 => l r m1 (fun lo m2 => h r m2 (fun hi m3 => w u lo hi m3 R) x) x) x := rfl
@[simp] theorem e_mt (T : String) (w : WM) (o : WE) (a : WA) : wMt T w o a r m R x = o r m (fun u m1 => tyM T m1 u ∧ a r m1 (fun us m2 => w u us m2 R) x) x := rfl
@[simp] theorem e_lc (b : Bool) (vs : List Nat) (it : WI) (g : WG) (t : WT) (e : WE) : wLc b vs it g t e r m R x = it r m (fun ds G m1 => wLcL G vs g t e r ds [] m1 fun us m2 => wNw b us m2 R) x := rfl
@[simp] theorem e_seqI (a : WE) (K : List D → (Store → Prop) → Store → Prop) : iSeq a r m K x = a r m (fun u m1 => asI m1 u fun ds G => K ds G m1) x := rfl
@[simp] theorem e_frz (a : WE) : wFrz a r m R x = a r m (fun u m1 => ∃ b ds, u = .ref b ∧ m1 b = some (.lst ds) ∧ R (.lst ds) (sdel m1 b)) x := rfl
@[simp] theorem e_fgt (a : WE) : wFgt a r m R x = a r m (fun u m1 => ∃ m2, Sub m2 m1 ∧ R u m2) x := rfl
@[simp] theorem e_callV (tab : Addr → Option (Nat × FW)) (f : WE) (a : WA) : wCallV tab f a r m R x = f r m (fun u m1 => match u with
  | .ref q => ok (tab q) fun g => a r m1 (fun us m2 => us.length = g.1 ∧ g.2 us m2 R x) x
  | _ => False) x := rfl
@[simp] theorem e_pairs0 (K : List (D × D) → Store → Prop) : wPairs [] r m K x = K [] m := rfl
@[simp] theorem e_pairs (a b : WE) (t : List (WE × WE)) (K : List (D × D) → Store → Prop) : wPairs ((a, b) :: t) r m K x = a r m (fun u m1 => b r m1 (fun v m2 => wPairs t r m2 (fun ps m3 => K ((u, v) :: ps) m3) x) x) x := rfl
@[simp] theorem e_disp (ps : List (WE × WE)) : wDisp ps r m R x = wPairs ps r m (fun us m1 => us.length ≤ 15 ∧ ok (keysD us) fun kvs => ∀ a, m1 a = none → R (.ref a) (sup m1 a (.dct (mergeD [] kvs)))) x := rfl
@[simp] theorem e_dispget (ps : List (WE × WE)) (k : WE) : wDispGet ps k r m R x = wPairs ps r m (fun us m1 => us.length ≤ 15 ∧ ok (keysD us) fun kvs => k r m1 (fun q m2 => ok (keyD q) fun q => ok (lookK (mergeD [] kvs) q) fun v => R v m2) x) x := rfl
@[simp] theorem e_dispget2 (ps : List (WE × WE)) (k z : WE) : wDispGet2 ps k z r m R x = wPairs ps r m (fun us m1 => us.length ≤ 15 ∧ ok (keysD us) fun kvs => k r m1 (fun q m2 => z r m2 (fun y m3 => ok (keyD q) fun q => R ((lookK (mergeD [] kvs) q).getD y) m3) x) x) x := rfl
@[simp] theorem s_next : wNext r m k = k.nx r m := rfl
@[simp] theorem s_seq (s t : WS) : wSeq s t r m k = s r m { k with nx := fun r' m' => t r' m' k } := rfl
@[simp] theorem s_if (t : WT) (a b : WS) : wIfS t a b r m k = t r m (fun c m1 => if c = true then a r m1 k else b r m1 k) k.ex := rfl
@[simp] theorem s_ret (a : WE) : wRet a r m k = a r m k.rt k.ex := rfl
@[simp] theorem s_retN : wRetN r m k = k.rt .non m := rfl
@[simp] theorem s_exp (a : WE) : wExp a r m k = a r m (fun _ m1 => k.nx r m1) k.ex := rfl
@[simp] theorem s_set (i : Nat) (a : WE) : wSet i a r m k = a r m (fun u m1 => k.nx (put r i (some u)) m1) k.ex := rfl
@[simp] theorem s_asg (a : WE) (g : WG) : wAsg a g r m k = a r m (fun u m1 => g u r m1 k.nx) k.ex := rfl
@[simp] theorem s_raise (C : Addr) : wRaise C r m k = k.ex C m := rfl
@[simp] theorem s_par (i j : Nat) (a : WA) : wPar i j a r m k = a r m (fun us m1 => match us with | [u, v] => k.nx (put (put r i (some u)) j (some v)) m1 | _ => False) k.ex := rfl
@[simp] theorem s_for (it : WI) (g : WG) (b : WS) : wFor it g b r m k = it r m (fun ds G m1 => wForL G g b ds r m1 k) k.ex := rfl
@[simp] theorem s_try (wh : Addr → Option D) (s : WS) : wTry wh s r m k = s r m { k with ex := fun C m' => ok (wh C) fun d => k.rt d m' } := rfl
@[simp] theorem s_break : wBreak r m k = k.bk r m := rfl
@[simp] theorem s_dput (d q v : WE) : wDPut d q v r m k = v r m (fun y m1 => d r m1 (fun u m2 => q r m2 (fun q m3 => match u with
  | .ref a => ∃ kvs, m3 a = some (.dct kvs) ∧ kvs.length < LIM ∧ ok (keyD q) fun q => k.nx r (sup m3 a (.dct (putKD q y kvs)))
  | _ => False) k.ex) k.ex) k.ex := rfl
@[simp] theorem g_nm (i : Nat) (u : D) (K : Env → Store → Prop) : gNm i u r m K = K (put r i (some u)) m := rfl
@[simp] theorem g_tp (is : List Nat) (ds : List D) (K : Env → Store → Prop) : gTp is (.tup ds) r m K = (ds.length = is.length ∧ K (putAll r is ds) m) := rfl
@[simp] theorem g_ls (is : List Nat) (ds : List D) (K : Env → Store → Prop) : gLs is (.lst ds) r m K = (ds.length = is.length ∧ K (putAll r is ds) m) := rfl
end
@[simp] theorem end_nx (R : KD) (x : XD) : (endD R x).nx = fun _ m => R .non m := rfl
@[simp] theorem end_rt (R : KD) (x : XD) : (endD R x).rt = R := rfl
@[simp] theorem end_ex (R : KD) (x : XD) : (endD R x).ex = x := rfl
@[simp] theorem get0 (a : Option D) (r : Env) : get (a :: r) 0 = a := rfl
@[simp] theorem getS (a : Option D) (r : Env) (i : Nat) : get (a :: r) (i + 1) = get r i := rfl
@[simp] theorem put0 (a d : Option D) (r : Env) : put (a :: r) 0 d = d :: r := rfl
@[simp] theorem putS (a d : Option D) (r : Env) (i : Nat) : put (a :: r) (i + 1) d = a :: put r i d := rfl
@[simp] theorem putAll0 (r : Env) (ds : List D) : putAll r [] ds = r := by cases ds <;> rfl
@[simp] theorem putAllS (r : Env) (i : Nat) (is : List Nat) (d : D) (ds : List D) : putAll r (i :: is) (d :: ds) = putAll (put r i (some d)) is ds := rfl
@[simp] theorem wipe0 (r : Env) : wipeD r [] = r := rfl
@[simp] theorem wipeS (r : Env) (v : Nat) (vs : List Nat) : wipeD r (v :: vs) = put (wipeD r vs) v none := rfl
@[simp] theorem start0 (n : Nat) (ds : List D) : startD n ds = ds.map some ++ List.replicate (n - ds.length) none := rfl
@[simp] theorem ixA (i : Nat) (n : Nat) : ixL n (i : Int) = if i < n then some i else none := by
  unfold ixL
  rw [if_pos (Int.natCast_nonneg i)]
  by_cases h : i < n
  · rw [if_pos h, if_pos (by omega)]; simp
  · rw [if_neg h, if_neg (by omega)]
theorem lc_pure {G : Store → Prop} {vs : List Nat} {g : WG} {t : WT} {e : WE} {r : Env} {m : Store} (f : D → Option D) (hG : G m) : ∀ (ds acc : List D) (K : List D → Store → Prop), acc.length + ds.length ≤ LIM →
    (∀ d ∈ ds, ∀ (K1 : KD) (K0 : Store → Prop), (match f d with | some u => K1 u m | none => K0 m) → g d (wipeD r vs) m fun r' m' => t r' m' (fun c m1 => if c = true then e r' m1 K1 (fun _ _ => False) else K0 m1) (fun _ _ => False)) →
    K (acc ++ ds.filterMap f) m → wLcL G vs g t e r ds acc m K
  | [], acc, K, _, _, q => ⟨hG, by simpa using q⟩
  | d :: ds, acc, K, hl, h, q => by
    refine ⟨hG, ?_⟩
    simp only [List.length_cons] at hl
    refine h d List.mem_cons_self (fun u m2 => acc.length < LIM ∧ wLcL G vs g t e r ds (acc ++ [u]) m2 K) (fun m1 => wLcL G vs g t e r ds acc m1 K) ?_
    have ih := fun acc' hl' => lc_pure f hG ds acc' K hl' (fun d hd => h d (List.mem_cons_of_mem _ hd))
    cases hf : f d with
    | none => exact ih acc (by omega) (by simpa [hf] using q)
    | some u => exact ⟨by omega, ih (acc ++ [u]) (by simp; omega) (by simpa [hf] using q)⟩
theorem lc_map {α : Type} {G : Store → Prop} {vs : List Nat} {i : Nat} {e : WE} {r : Env} {m : Store} (f g : α → D) (hG : G m) : ∀ (xs : List α) (acc : List D) (K : List D → Store → Prop), acc.length + xs.length ≤ LIM →
    (∀ a ∈ xs, ∀ K1 : KD, K1 (g a) m → e (put (wipeD r vs) i (some (f a))) m K1 (fun _ _ => False)) → K (acc ++ xs.map g) m → wLcL G vs (gNm i) wYes e r (xs.map f) acc m K
  | [], acc, K, _, _, q => ⟨hG, by simpa using q⟩
  | d :: ds, acc, K, hl, h, q => by
    simp only [List.length_cons] at hl
    refine ⟨hG, h d List.mem_cons_self _ ⟨by omega, lc_map f g hG ds (acc ++ [g d]) K (by simp; omega) (fun a ha => h a (List.mem_cons_of_mem _ ha)) (by simpa using q)⟩⟩
theorem lc_filter {α : Type} {G : Store → Prop} {vs : List Nat} {i : Nat} {t : WT} {r : Env} {m : Store} (f : α → D) (p : α → Bool) (hG : G m) (hi : ∀ d, get (put (wipeD r vs) i (some d)) i = some d) : ∀ (xs : List α) (acc : List D) (K : List D → Store → Prop), acc.length + xs.length ≤ LIM →
    (∀ a ∈ xs, ∀ K2 : Bool → Store → Prop, K2 (p a) m → t (put (wipeD r vs) i (some (f a))) m K2 (fun _ _ => False)) → K (acc ++ (xs.filter p).map f) m → wLcL G vs (gNm i) t (wVar i) r (xs.map f) acc m K
  | [], acc, K, _, _, q => ⟨hG, by simpa using q⟩
  | d :: ds, acc, K, hl, h, q => by
    simp only [List.length_cons] at hl
    refine ⟨hG, h d List.mem_cons_self _ ?_⟩
    have ih := fun acc' hl' => lc_filter f p hG hi ds acc' K hl' (fun a ha => h a (List.mem_cons_of_mem _ ha))
    cases hp : p d with
    | false =>
      rw [if_neg (by decide)]
      exact ih acc (by omega) (by simpa [hp] using q)
    | true =>
      rw [if_pos rfl]
      simp only [e_var, hi, ok_some]
      exact ⟨by omega, ih (acc ++ [f d]) (by simp; omega) (by simpa [hp] using q)⟩
theorem all_lst {bs : List Bool} {m : Store} {R : KD} (h : R (.bl (bs.all id)) m) : wAll [.lst (bs.map .bl)] m R := ⟨bs, rfl, h⟩
theorem any_lst {bs : List Bool} {m : Store} {R : KD} (h : R (.bl (bs.any id)) m) : wAny [.lst (bs.map .bl)] m R := ⟨bs, rfl, h⟩
theorem lc_inv {G : Store → Prop} {vs : List Nat} {g : WG} {t : WT} {e : WE} {r : Env} (I : List D → List D → Store → Prop) : ∀ (ds acc : List D) (m : Store) (K : List D → Store → Prop), I ds acc m →
    (∀ d ds acc m, I (d :: ds) acc m → ∀ (P : List D → Store → Prop), (∀ acc' m', I ds acc' m' → P acc' m') → G m ∧ g d (wipeD r vs) m fun r' m' => t r' m' (fun c m1 => if c = true then e r' m1 (fun u m2 => acc.length < LIM ∧ P (acc ++ [u]) m2) (fun _ _ => False) else P acc m1) (fun _ _ => False)) →
    (∀ acc m, I [] acc m → G m ∧ K acc m) → wLcL G vs g t e r ds acc m K
  | [], acc, m, K, h, _, q => q acc m h
  | d :: ds, acc, m, K, h, hs, q => hs d ds acc m h (fun acc m => wLcL G vs g t e r ds acc m K) fun acc' m' h' => lc_inv I ds acc' m' K h' hs q
theorem for_inv {G : Store → Prop} {g : WG} {b : WS} {k : SK} (I : List D → Env → Store → Prop) : ∀ (ds : List D) (r : Env) (m : Store), I ds r m →
    (∀ d ds r m, I (d :: ds) r m → ∀ (P : Env → Store → Prop), (∀ r' m', I ds r' m' → P r' m') → G m ∧ g d r m fun r' m' => b r' m' { k with nx := P, ct := P, bk := k.nx }) →
    (∀ r m, I [] r m → G m ∧ k.nx r m) → wForL G g b ds r m k
  | [], r, m, h, _, q => q r m h
  | d :: ds, r, m, h, hs, q => hs d ds r m h (fun r m => wForL G g b ds r m k) fun r' m' h' => for_inv I ds r' m' h' hs q
@[simp] theorem so_inj {a b : String} : PySem.Str.ofString a = PySem.Str.ofString b ↔ a = b := by
  refine ⟨fun h => ?_, fun h => by rw [h]⟩
  rw [PySem.Str.ofString_eq_toList, PySem.Str.ofString_eq_toList] at h
  have h1 : (a.toList.map Char.toNat).toArray = (b.toList.map Char.toNat).toArray := congrArg PySem.Str.cps h
  have h2 : a.toList.map Char.toNat = b.toList.map Char.toNat := by simpa using h1
  have h3 : a.toList = b.toList := List.map_inj_right (f := Char.toNat) (fun x y e => Char.toNat_inj.mp e) |>.mp h2
  exact String.toList_inj.mp h3
abbrev ch (c : Nat) : D := .str ⟨#[c]⟩
@[simp] theorem so_sp : PySem.Str.ofString " " = ⟨#[32]⟩ := by decide +kernel
@[simp] theorem so_A : PySem.Str.ofString "A" = ⟨#[65]⟩ := by decide +kernel
@[simp] theorem so_Z : PySem.Str.ofString "Z" = ⟨#[90]⟩ := by decide +kernel
@[simp] theorem so_q : PySem.Str.ofString "'" = ⟨#[39]⟩ := by decide +kernel
@[simp] theorem so_r : PySem.Str.ofString "^" = ⟨#[94]⟩ := by decide +kernel
@[simp] theorem so_t : PySem.Str.ofString "~" = ⟨#[126]⟩ := by decide +kernel
@[simp] theorem so_d : PySem.Str.ofString "." = ⟨#[46]⟩ := by decide +kernel
@[simp] theorem so_0 : PySem.Str.ofString "0" = ⟨#[48]⟩ := by decide +kernel
@[simp] theorem so_a : PySem.Str.ofString "a" = ⟨#[97]⟩ := by decide +kernel
@[simp] theorem so_b : PySem.Str.ofString "b" = ⟨#[98]⟩ := by decide +kernel
@[simp] theorem so_e : PySem.Str.ofString "" = ⟨#[]⟩ := by decide +kernel
end DL
end
section
set_option maxHeartbeats 0
namespace DL
open PySem PySem.Spec PyProof.Rows L2
def ltD (d e : D) : Bool := PySem.W.dataLt (toPy d) (toPy e)
def alikeD (d e : D) : Bool := PySem.W.alike (toPy d) (toPy e)
def sortable (ds : List D) : Prop := (∀ d ∈ ds, ∃ x r, d = .tup (x :: r)) ∨ ∀ d ∈ ds, d ≠ .non ∧ ∀ xs, d ≠ .tup xs
theorem ltD_int (i j : Int) : ltD (.int i) (.int j) = decide (i < j) := PySem.W.dataLt_int i j
theorem ltD_str (x y : Str) : ltD (.str x) (.str y) = decide (x.cps.toList < y.cps.toList) := PySem.W.dataLt_str x y
theorem ltD_nil : ltD (.tup []) (.tup []) = false := by
  show PySem.W.dataLt (.tuple []) (.tuple []) = false
  rw [PySem.W.dataLt_tuple]; exact PyProof.Rows.lex_irrefl _
theorem ltD_cons {x y : D} {xs ys : List D} {n k : Nat} (h : alikeD x y = true) (h1 : dOk x n = true) (h2 : dOk y k = true) : ltD (.tup (x :: xs)) (.tup (y :: ys)) = if eqD x y = true then ltD (.tup xs) (.tup ys) else ltD x y := by
  show PySem.W.dataLt (.tuple (toPy x :: toPys xs)) (.tuple (toPy y :: toPys ys)) = _
  rw [PySem.W.dataLt_tuple, PySem.W.dataLt_cons h, toPy_eq x y n k h1 h2]
  split
  · show _ = PySem.W.dataLt (.tuple (toPys xs)) (.tuple (toPys ys))
    rw [PySem.W.dataLt_tuple]
  · rfl
theorem alikeD_int (i j : Int) : alikeD (.int i) (.int j) = true := rfl
theorem alikeD_str (x y : Str) : alikeD (.str x) (.str y) = true := rfl
theorem alikeD_nil : alikeD (.tup []) (.tup []) = true := rfl
theorem alikeD_cons (x y : D) (xs ys : List D) : alikeD (.tup (x :: xs)) (.tup (y :: ys)) = (alikeD x y && alikeD (.tup xs) (.tup ys)) := rfl
theorem toPys_map : ∀ ds : List D, toPys ds = ds.map toPy
  | [] => rfl
  | d :: ds => by rw [toPys, toPys_map ds]; rfl
def wSortD (b : Bool) : WL := fun us m R => match us with
  | [d] => ∃ ds, asL m d = some ds ∧ dOks ds 59 = true ∧ (∀ x ∈ ds, ∀ y ∈ ds, alikeD x y = true) ∧ sortable ds ∧ ∀ es : List D, es.Perm ds → es.Pairwise (fun x y => ltD y x = false) → wNw b es m R
  | _ => False
def rSrt (K : PySem.W.Frag) : List V → Hp → VK → Prop := fun vs H Q => ∃ (a : Addr) (xs : List V) (ds : List D), vs = [V.ref a] ∧ SqL K H a xs ∧ L2.DpAll K H xs (toPys ds) ∧ dOks ds 59 = true ∧ (∀ x ∈ ds, ∀ y ∈ ds, alikeD x y = true) ∧ sortable ds ∧
  ∀ (zs : List (V × D)) (p : Addr), zs.Perm (xs.zip ds) → zs.Pairwise (fun x y => ltD y.2 x.2 = false) → H p = none → Q (.ref p) (upd H p (.lst (zs.map (·.1))))
theorem each_vals : ∀ {vs : List V} {us : List Value} {ds : List D}, Vals vs us → vs.length = ds.length → PySem.W.EachIs (fun (u : Value) (b : V × D) => RelV b.1 u) us (vs.zip ds)
  | [], _, [], .nil, _ => .nil
  | v :: vs, _, d :: ds, .cons h t, hl => .cons h (each_vals t (by simpa using hl))
  | [], _, _ :: _, .nil, hl => absurd hl (by simp)
  | _ :: _, _, [], _, hl => absurd hl (by simp)
theorem vals_each : ∀ {us : List Value} {zs : List (V × D)}, PySem.W.EachIs (fun (u : Value) (b : V × D) => RelV b.1 u) us zs → Vals (zs.map (·.1)) us
  | _, _, .nil => .nil
  | _, _, .cons h t => .cons h (vals_each t)
section
variable {X : Cx}
theorem reads_each {pins : List (Addr × Obj)} {σ : L2.St} {H : Hp} {s : Shared} (I : Inv X pins σ H s) : ∀ {vs : List V} {us : List Value} {ds : List D}, Vals vs us → L2.DpAll X.K H vs (toPys ds) → PySem.W.EachIs (fun (u : Value) (b : V × D) => ∃ as, Reads s.heap u (toPy b.2) as) us (vs.zip ds)
  | [], _, [], .nil, _ => .nil
  | v :: vs, _, d :: ds, .cons h t, .cons p q => .cons (Dp.reads I (toPy d) v _ p h) (reads_each I t q)
  | [], _, _ :: _, .nil, h => by cases h
  | _ :: _, _, [], _, h => by cases h
theorem cr_srt (hu : X.A.units + 65 < cLine) : CallR X (.builtin "sorted") (rSrt X.K) := by
  intro pins s σ H vs us Q I r h
  obtain ⟨a, xs, ds, rfl, hs, hd, hok, hal, hso, q⟩ := h
  obtain ⟨its, rv, hl, hz⟩ := I.list hs
  rw [Vals.ref1 r]
  have hlen : xs.length = ds.length := by
    have : ∀ {xs : List V} {ds : List D}, L2.DpAll X.K H xs (toPys ds) → xs.length = ds.length := fun {xs} => by
      induction xs with
      | nil => intro ds h; cases ds with
        | nil => rfl
        | cons a b => cases h
      | cons x xs ih => intro ds h; cases ds with
        | nil => cases h
        | cons a b => cases h with | cons h1 h2 => simp [ih h2]
    exact this hd
  have hzl : (xs.zip ds).length = ds.length := by rw [List.length_zip, hlen]; simp
  have hmem : ∀ z ∈ xs.zip ds, z.2 ∈ ds := fun z hz => (List.of_mem_zip hz).2
  refine PySem.W.sorted_data (enc := fun b : V × D => toPy b.2) (bs := xs.zip ds) hl.isList (each_vals rv hlen) (reads_each I rv hd) ?_ ?_ ?_ ?_ fun out hol he => ?_
  · intro d hd d' hd'
    obtain ⟨z, h1, rfl⟩ := List.mem_map.mp hd
    obtain ⟨z', h2, rfl⟩ := List.mem_map.mp hd'
    exact hal _ (hmem z h1) _ (hmem z' h2)
  · rcases hso with h | h
    · left
      intro d hd
      obtain ⟨z, h1, rfl⟩ := List.mem_map.mp hd
      obtain ⟨x, rr, e⟩ := h _ (hmem z h1)
      exact ⟨toPy x, toPys rr, by rw [e]; rfl⟩
    · right
      intro d hd
      obtain ⟨z, h1, rfl⟩ := List.mem_map.mp hd
      obtain ⟨e1, e2⟩ := h _ (hmem z h1)
      have hk : dOk z.2 59 = true := by
        have : ∀ {ys : List D} {y : D}, dOks ys 59 = true → y ∈ ys → dOk y 59 = true := fun {ys y} h hy => by
          induction ys with
          | nil => simp at hy
          | cons a l ih =>
            have h' : dOk a 59 = true ∧ dOks l 59 = true := by simpa [dOks] using h
            rcases List.mem_cons.mp hy with e | e
            · rw [e]; exact h'.1
            · exact ih h'.2 e
        exact this hok (hmem z h1)
      cases hz2 : z.2 with
      | non => exact absurd hz2 e1
      | tup ys => exact absurd hz2 (e2 ys)
      | ref a => rw [hz2] at hk; simp [dOk] at hk
      | scr a => rw [hz2] at hk; simp [dOk] at hk
      | ty a => rw [hz2] at hk; simp [dOk] at hk
      | _ => simp [toPy]
  · rw [hzl, ← hlen]; exact hz
  · intro b hb
    have := (toPys_lay ds 59 hok).2
    have h2 : (toPy b.2).depth ≤ PyData.depthAll (toPys ds) := by
      have : ∀ {ys : List D} {y : D}, y ∈ ys → (toPy y).depth ≤ PyData.depthAll (toPys ys) := fun {ys y} hy => by
        induction ys with
        | nil => simp at hy
        | cons a l ih =>
          rw [toPys, PyData.depthAll]
          rcases List.mem_cons.mp hy with e | e
          · rw [e]; omega
          · have := ih e; omega
      exact this (hmem b hb)
    omega
  · have hp : ((xs.zip ds).mergeSort (PySem.W.dataLe false fun b : V × D => toPy b.2)).Perm (xs.zip ds) := List.mergeSort_perm _ _
    have hsort : ((xs.zip ds).mergeSort (PySem.W.dataLe false fun b : V × D => toPy b.2)).Pairwise (fun x y => ltD y.2 x.2 = false) := by
      have T := PySem.W.sortLe_total (listOrd itemOrd) false (fun b : V × D => PySem.W.keyToks (toPy b.2))
      have h := List.pairwise_mergeSort (le := PySem.W.dataLe false fun b : V × D => toPy b.2) T.trans (fun a b => by rw [Bool.or_eq_true]; exact T.total a b) (xs.zip ds)
      exact h.imp fun {x y} h => by
        simp only [PySem.W.dataLe_eq, cond_false, Bool.not_eq_true'] at h
        exact h
    obtain ⟨ep, he'⟩ := PyProof.Rows.sortedAll_at s.heap its out.toArray
    have hlen2 : (((xs.zip ds).mergeSort (PySem.W.dataLe false fun b : V × D => toPy b.2)).map (·.1)).length ≤ sizeLine := by
      rw [List.length_map, hp.length_eq, hzl, ← hlen]; exact hz
    exact ⟨.ref _, upd H (s.heap.objs.size + 1) (.lst (((xs.zip ds).mergeSort (PySem.W.dataLe false fun b : V × D => toPy b.2)).map (·.1))), I.laid (t' := s.toks) (fun _ _ => PyProof.Rows.sortedAll_old) (Nat.le_succ _) ⟨hlen2, out, ep, vals_each he, he'⟩, rfl, q _ _ hp hsort (I.hok.fresh (Nat.le_succ _))⟩
theorem dp_zip {K : PySem.W.Frag} {B : Hp} : ∀ {vs : List V} {ds : List D}, DpAll K B vs ds → ∀ z ∈ vs.zip ds, Dp K B z.1 z.2
  | _, _, .nil, z, h => by simp at h
  | _, _, .cons p q, z, h => by
    rcases List.mem_cons.mp h with e | e
    · rw [e]; exact p
    · exact dp_zip q z e
theorem zip_dp {K : PySem.W.Frag} {B : Hp} : ∀ {zs : List (V × D)}, (∀ z ∈ zs, Dp K B z.1 z.2) → DpAll K B (zs.map (·.1)) (zs.map (·.2))
  | [], _ => .nil
  | z :: zs, h => .cons (h z List.mem_cons_self) (zip_dp fun y hy => h y (List.mem_cons_of_mem _ hy))
theorem sortD_ {b : Bool} (hu : X.A.units + 65 < cLine) : CallD X (.builtin "sorted") (wSortD b) := by
  refine ⟨_, cr_srt hu, fun B us ds p H m R Q S h t => ?_⟩
  match ds, h with
  | [d], h =>
    obtain ⟨v, rfl, p1⟩ := one_arg p rfl
    obtain ⟨ds, h1, hok, hal, hso, h2⟩ := h
    obtain ⟨a, vs, rfl, ha, pa⟩ := seqL S p1 h1
    have hlen := pa.length
    refine ⟨a, vs, ds, rfl, .inl (.inl ha), toPys_dp S.same pa hok, hok, hal, hso, fun zs q z1 z2 nq => ?_⟩
    have hz : DpAll X.K B (zs.map (·.1)) (zs.map (·.2)) := zip_dp fun z hz => dp_zip pa z (z1.mem_iff.mp hz)
    refine eff_nw S t hz (h2 (zs.map (·.2)) ?_ ?_) q nq
    · have := z1.map (·.2)
      rwa [List.map_snd_zip (Nat.le_of_eq hlen.symm)] at this
    · exact List.pairwise_map.mpr z2
end
theorem perm_map {α β : Type} {f : α → β} {es : List β} {xs : List α} (h : es.Perm (xs.map f)) : ∃ ys : List α, es = ys.map f ∧ ys.Perm xs := by
  generalize hl : xs.map f = l at h
  induction h generalizing xs with
  | nil => exact ⟨[], rfl, by cases xs with | nil => exact .refl _ | cons a b => cases hl⟩
  | @cons x l1 l2 h ih =>
    cases xs with
    | nil => cases hl
    | cons a xs =>
      simp only [List.map_cons, List.cons.injEq] at hl
      obtain ⟨ys, e, p⟩ := ih hl.2
      exact ⟨a :: ys, by rw [e, List.map_cons, hl.1], p.cons a⟩
  | swap x y l =>
    match xs, hl with
    | a :: b :: xs, hl =>
      simp only [List.map_cons, List.cons.injEq] at hl
      exact ⟨b :: a :: xs, by rw [List.map_cons, List.map_cons, hl.1, hl.2.1, hl.2.2], List.Perm.swap _ _ _⟩
  | trans h1 h2 ih1 ih2 =>
    obtain ⟨ys, e, p⟩ := ih2 hl
    obtain ⟨zs, e2, p2⟩ := ih1 e.symm
    exact ⟨zs, e2, p2.trans p⟩
theorem sort_by {α : Type} (f : α → D) (lt : α → α → Bool) (xs : List α) {b : Bool} {m : Store} {R : KD} {d : D} (hd : asL m d = some (xs.map f)) (hok : ∀ x ∈ xs, dOk (f x) 59 = true) (hal : ∀ x ∈ xs, ∀ y ∈ xs, alikeD (f x) (f y) = true) (hso : sortable (xs.map f)) (hlt : ∀ x ∈ xs, ∀ y ∈ xs, ltD (f x) (f y) = lt x y)
    (h : ∀ ys : List α, ys.Perm xs → ys.Pairwise (fun x y => lt y x = false) → wNw b (ys.map f) m R) : wSortD b [d] m R := by
  refine ⟨xs.map f, hd, ?_, ?_, hso, fun es h1 h2 => ?_⟩
  · have : ∀ {l : List D}, (∀ d ∈ l, dOk d 59 = true) → dOks l 59 = true := fun {l} h => by
      induction l with
      | nil => rfl
      | cons a l ih => rw [dOks, h a List.mem_cons_self, ih fun d hd => h d (List.mem_cons_of_mem _ hd)]; rfl
    exact this fun d hd => by obtain ⟨x, hx, rfl⟩ := List.mem_map.mp hd; exact hok x hx
  · intro x hx y hy
    obtain ⟨x', hx', rfl⟩ := List.mem_map.mp hx
    obtain ⟨y', hy', rfl⟩ := List.mem_map.mp hy
    exact hal x' hx' y' hy'
  · obtain ⟨ys, rfl, p⟩ := perm_map h1
    refine h ys p ?_
    have := List.pairwise_map.mp h2
    refine this.imp_of_mem fun {x y} hx hy h => ?_
    rw [← hlt y (p.mem_iff.mp hy) x (p.mem_iff.mp hx)]; exact h
end DL
end
section
set_option maxHeartbeats 0
namespace DL
open PySem PySem.Spec PyProof.Rows L2
section
variable {X : Cx}
def wLtD : W2 := fun d e m R => match d, e with
  | .int i, .int j => R (.bl (decide (i < j))) m
  | .str s, .str t => R (.bl (decide (s.cps.toList < t.cps.toList))) m
  | .tup xs, .tup ys => (dOks xs 7 = true ∧ dOks ys 7 = true ∧ alikeD (.tup xs) (.tup ys) = true) ∧ R (.bl (ltD (.tup xs) (.tup ys))) m
  | _, _ => False
theorem op_ltData (hu : X.A.units + 64 < cLine) : OpR X (compareOp .Lt) (fun x y H Q => ∃ da db : PyData, L2.Dp X.K H x da ∧ L2.Dp X.K H y db ∧ PySem.W.alike da db = true ∧ da ≠ .none ∧ da.depth ≤ 60 ∧ Q (.bl (PySem.W.dataLt da db)) H) := by
  intro pins s σ H x y v u Q I rx ry h
  obtain ⟨da, db, p1, p2, hal, hn, hd, q⟩ := h
  obtain ⟨as, r1⟩ := L2.Dp.reads I da x v p1 rx
  obtain ⟨bs, r2⟩ := L2.Dp.reads I db y u p2 ry
  refine PySem.W.lt_data r1 r2 hal hn (by omega) ⟨.bl _, H, I, rfl, q⟩
theorem ltDt_ (hu : X.A.units + 64 < cLine) : OpD X (compareOp .Lt) wLtD := by
  refine ⟨_, op_lt.or (op_lt_str.or (op_ltData hu)), fun B u v d e p q H m R Q S h t => ?_⟩
  match d, e, h with
  | .int i, .int j, h =>
    cases p; cases q
    exact .inl ⟨i, j, rfl, rfl, eff_ret S t (.bl _) h⟩
  | .str i, .str j, h =>
    cases p; cases q
    exact .inr (.inl ⟨i, j, rfl, rfl, eff_ret S t (.bl _) h⟩)
  | .tup xs, .tup ys, h =>
    obtain ⟨⟨h1, h2, h3⟩, h4⟩ := h
    have o1 : dOk (.tup xs) 8 = true := by rw [dOk]; exact h1
    have o2 : dOk (.tup ys) 8 = true := by rw [dOk]; exact h2
    refine .inr (.inr ⟨toPy (.tup xs), toPy (.tup ys), toPy_dp S.same p o1, toPy_dp S.same q o2, h3, fun z => (nomatch (show PyData.tuple (toPys xs) = .none from z)), ?_, eff_ret S t (.bl _) h4⟩)
    have := (toPy_lay _ 8 o1).2
    omega
end
end DL
end
section
set_option maxHeartbeats 0
namespace DL
open PySem
def deads : List (List Nat) := [[], [39], [94], [126], [39, 94], [39, 126], [94, 126], [39, 94, 126]]
def machD (c : Int) (dead : List Nat) (dn : Int) : D := .tup [.int c, .tup (dead.map ch), .int dn]
structure MOk (c : Int) (dead : List Nat) (dn : Int) : Prop where
  lo : 8 ≤ c
  hi : c ≤ 40
  de : dead ∈ deads
  d2 : 2 ≤ dn
  d4 : dn ≤ 4
@[simp] theorem mach0 (c : Int) (dead : List Nat) (dn : Int) (m : Store) (R : KD) : wIx (machD c dead dn) (.int 0) m R = R (.int c) m := rfl
@[simp] theorem mach1 (c : Int) (dead : List Nat) (dn : Int) (m : Store) (R : KD) : wIx (machD c dead dn) (.int 1) m R = R (.tup (dead.map ch)) m := rfl
@[simp] theorem mach2 (c : Int) (dead : List Nat) (dn : Int) (m : Store) (R : KD) : wIx (machD c dead dn) (.int 2) m R = R (.int dn) m := rfl
@[simp] theorem lt1 (a b : Nat) : ([a] < [b]) ↔ a < b := by simp [List.cons_lt_cons_iff]
mutual
def szOk : D → Bool
  | .str s => decide (s.length ≤ LIM)
  | .tup xs => decide (xs.length ≤ LIM) && szOks xs
  | .lst xs => decide (xs.length ≤ LIM) && szOks xs
  | _ => true
def szOks : List D → Bool
  | [] => true
  | x :: xs => szOk x && szOks xs
end
def arg (m : Store) (d : D) : Prop := (dOk d 60 = true ∧ szOk d = true) ∨ ∃ a kvs, d = .ref a ∧ m a = some (.dct kvs)
def wholeB (d : D) (lo hi : Int) : Bool := match d with | .int i => decide (lo ≤ i) && decide (i ≤ hi) | _ => false
def ph_is_whole (A : Ad) : FW := fun ds m R _ => ∃ d lo hi, ds = [d, .int lo, .int hi] ∧ (tyN m d).isSome = true ∧ R (.bl (wholeB d lo hi)) m
def oneOfB (d : D) (s : Str) : Bool := match d with
  | .str t => match t.cps.toList with | [c] => decide (c ∈ s.cps.toList) | _ => false
  | _ => false
def ph_is_one_of (A : Ad) : FW := fun ds m R _ => ∃ d s, ds = [d, .str s] ∧ (tyN m d).isSome = true ∧ (∀ t, d = .str t → t.length ≤ LIM) ∧ R (.bl (oneOfB d s)) m
def rise {α : Type} (lt : α → α → Bool) : List α → Bool
  | a :: b :: r => lt a b && rise lt (b :: r)
  | _ => true
structure Pt where
  place : Int
  sign : Nat
  red : Bool
deriving DecidableEq
def ptD (p : Pt) : D := .tup [.int p.place, ch p.sign, if p.red = true then wordD "red" else wordD "black"]
def ptLt (a b : Pt) : Bool := decide (a.place < b.place) || (decide (a.place = b.place) && (decide (a.sign < b.sign) || (decide (a.sign = b.sign) && (!a.red && b.red))))
def ph_is_rising (A : Ad) : FW := fun ds m R _ => (∃ ns : List Int, ds = [.tup (ns.map .int)] ∧ ns.length ≤ LIM ∧ R (.bl (rise (fun a b => decide (a < b)) ns)) m) ∨ (∃ ns : List Nat, ds = [.tup (ns.map ch)] ∧ ns.length ≤ LIM ∧ R (.bl (rise (fun a b => decide (a < b)) ns)) m) ∨ (∃ ps : List Pt, ds = [.tup (ps.map ptD)] ∧ ps.length ≤ LIM ∧ (∀ p ∈ ps, p.sign < 128) ∧ R (.bl (rise ptLt ps)) m)
def sgn : D → Nat
  | .str s => s.cps.toList.headD 0
  | _ => 0
def machB : D → Bool
  | .tup [a, .tup xs, b] => wholeB a 8 40 && xs.all (fun d => oneOfB d G_DEAD) && rise (fun a b => decide (a < b)) (xs.map sgn) && wholeB b 2 4
  | _ => false
def inMach (A : Ad) (m : Store) (d : D) (x : XD) (K : Int → List Nat → Int → Prop) : Prop := arg m d ∧ (machB d = false → x A.xNoMachine m) ∧ ∀ c dead dn, d = machD c dead dn → MOk c dead dn → K c dead dn
theorem inMach.imp {A : Ad} {m : Store} {d : D} {x : XD} {K K' : Int → List Nat → Int → Prop} (h : inMach A m d x K) (f : ∀ c dead dn, d = machD c dead dn → MOk c dead dn → K c dead dn → K' c dead dn) : inMach A m d x K' := ⟨h.1, h.2.1, fun c dead dn e hM => f c dead dn e hM (h.2.2 c dead dn e hM)⟩
def ph_is_machine (A : Ad) : FW := fun ds m R _ => ∃ d, ds = [d] ∧ arg m d ∧ R (.bl (machB d)) m
def ph_need_machine (A : Ad) : FW := fun ds m R x => ∃ d, ds = [d] ∧ inMach A m d x fun _ _ _ => R .non m
def ph_end_of (A : Ad) : FW := fun ds m R _ => ∃ c dead dn, ds = [machD c dead dn] ∧ MOk c dead dn ∧ R (.int (2 * c)) m
def marB (e : Int) (l r : D) : Bool := wholeB l 0 e && wholeB r 0 e && (match l, r with | .int a, .int b => decide (a < b) | _, _ => false)
def ph_need_margins (A : Ad) : FW := fun ds m R x => ∃ c dead dn l r, ds = [machD c dead dn, l, r] ∧ MOk c dead dn ∧ (tyN m l).isSome = true ∧ (tyN m r).isSome = true ∧ if marB (2 * c) l r = true then R .non m else x A.xNoPlace m
def k1 (s : String) : D := .tup [wordD s]
def kS (c : Nat) : D := .tup [wordD "sign", ch c]
def keyOf (c : Nat) : List D := if c = 32 then [k1 "blank"] else if 65 ≤ c ∧ c ≤ 90 then [k1 "caps", kS (c + 32), k1 "caps"] else [kS c]
def keysOf (cs : List Nat) : List D := cs.flatMap keyOf
def ph_key_for (A : Ad) : FW := fun ds m R _ => ∃ c, ds = [ch c] ∧ R (kS (loC c)) m
def ph_keys_of (A : Ad) : FW := fun ds m R _ => ∃ s, ds = [.str s] ∧ s.length ≤ 1000 ∧ ∀ a, m a = none → R (.ref a) (sup m a (.lst (keysOf s.cps.toList)))
def onD (n : Int) : List D := List.replicate (n / 2).toNat (k1 "blank") ++ List.replicate (n % 2).toNat (k1 "half")
def ph_on (A : Ad) : FW := fun ds m R _ => ∃ n : Int, ds = [.int n] ∧ 0 ≤ n ∧ n ≤ 1000 ∧ R (.lst (onD n)) m
def lineB (dead : List Nat) (d : D) (more : Str) : Bool := match d with
  | .str s => decide (1 ≤ s.length) && decide (s.length ≤ 40) && s.cps.toList.all fun c => decide (c ∈ (G_SIGNS ++ G_GREAT ++ more).cps.toList) && decide (c ∉ dead)
  | _ => false
def ph_is_line (A : Ad) : FW := fun ds m R _ => ∃ c dead dn d more, ds = [machD c dead dn, d, .str more] ∧ (tyN m d).isSome = true ∧ (∀ t, d = .str t → t.length ≤ LIM) ∧ more.length ≤ 100 ∧ R (.bl (lineB dead d more)) m
def flushO (half : Bool) (c : Int) (dead : List Nat) (l r t : D) : Nat ⊕ List D :=
  if marB (2 * c) l r = true then
    if lineB dead t ⟨#[32]⟩ = true then
      match l, r, t with
      | .int a, .int b, .str s => if b - a - 2 * (s.length : Int) < 0 then .inl 8 else .inr (onD (if half then (b - a - 2 * (s.length : Int)) / 2 else b - a - 2 * (s.length : Int)) ++ keysOf s.cps.toList)
      | _, _, _ => .inl 3
    else .inl 6
  else .inl 3
def phFl (half : Bool) (A : Ad) : FW := fun ds m R x => ∃ dm l r t, ds = [dm, l, r, t] ∧ inMach A m dm x fun c dead dn => (tyN m l).isSome = true ∧ (tyN m r).isSome = true ∧ (tyN m t).isSome = true ∧ (∀ s, t = .str s → s.length ≤ LIM) ∧
  match flushO half c dead l r t with
  | .inl k => ok (A.cls[k]?) fun C => x C m
  | .inr ks => R (.tup ks) m
def ph_flush (A : Ad) : FW := phFl false A
def ph_centred (A : Ad) : FW := phFl true A
def ph__law_cell_at (A : Ad) : FW := fun ds m R _ => ∃ ns k, ds = [.scr ns, .int k] ∧ 0 ≤ k ∧ ∀ v : Int, R (.int v) m
def ph__law_mixed (A : Ad) : FW := fun ds m R _ => ∃ ns k n, ds = [.scr ns, .int k, .int n] ∧ 0 ≤ k ∧ 0 < n ∧ ∀ v : Int, 0 ≤ v → v < n → R (.int v) m
def ph__law_draw (A : Ad) : FW := fun ds m R _ => ∃ ns t n us, ds = [.scr ns, .ref t, .int n] ∧ 0 < n ∧ m t = some (.lst us) ∧ us.length < LIM ∧ ∀ (v : Int) us', 0 ≤ v → v < n → us'.length = us.length + 1 → R (.int v) (sup m t (.lst us'))
def ph__law_pick (A : Ad) : FW := fun ds m R _ => ∃ ns t d us, ds = [.scr ns, .ref t, d] ∧ m t = some (.lst us) ∧ us.length < LIM ∧ match d with
  | .str s => s.length ≤ LIM ∧ 0 < s.length ∧ ∀ c us', c ∈ s.cps.toList → us'.length = us.length + 1 → R (ch c) (sup m t (.lst us'))
  | .tup xs => xs ≠ [] ∧ ∀ v us', v ∈ xs → us'.length = us.length + 1 → R v (sup m t (.lst us'))
  | .lst xs => xs ≠ [] ∧ ∀ v us', v ∈ xs → us'.length = us.length + 1 → R v (sup m t (.lst us'))
  | .ref a => a ≠ t ∧ ∃ xs, m a = some (.lst xs) ∧ xs ≠ [] ∧ ∀ v us', v ∈ xs → us'.length = us.length + 1 → R v (sup m t (.lst us'))
  | _ => False
def ph__law_machine (A : Ad) : FW := fun ds m R _ => ∃ ns t us, ds = [.scr ns, .ref t] ∧ m t = some (.lst us) ∧ us.length + 5 < LIM ∧ ∀ c dead dn us', MOk c dead dn → us'.length = us.length + 5 → R (machD c dead dn) (sup m t (.lst us'))
structure Mk where
  n : Int
  row : Int
  place : Int
  sign : Nat
  red : Bool
deriving DecidableEq
def colD (b : Bool) : D := if b = true then wordD "red" else wordD "black"
def mkD (k : Mk) : D := .tup [.int k.n, .int k.row, .int k.place, ch k.sign, colD k.red]
structure LW where
  c : Int
  dead : List Nat
  dn : Int
  row : Int
  place : Int
  low : Int
  high : Int
  tabs : List Int
  red : Bool
  caps : Bool
  free : Bool
  marks : List Mk
  rings : List Int
  many : Int
def key (s : String) : DKey := .inr (PySem.Str.ofString s)
def wkD (s : LW) (ta ma ra : Addr) : List (DKey × D) :=
  [(key "machine", machD s.c s.dead s.dn), (key "end", .int (2 * s.c)), (key "row", .int s.row), (key "place", .int s.place), (key "low", .int s.low), (key "high", .int s.high), (key "tabs", .ref ta), (key "red", .bl s.red), (key "caps", .bl s.caps), (key "free", .bl s.free), (key "marks", .ref ma), (key "rings", .ref ra), (key "many", .int s.many)]
structure WkAt (m0 : Store) (w : Addr) (m : Store) (s : LW) (ta ma ra : Addr) : Prop where
  sub : Sub m0 m
  nw : m0 w = none
  nt : m0 ta = none
  nm : m0 ma = none
  nr : m0 ra = none
  hw : m w = some (.dct (wkD s ta ma ra))
  ht : m ta = some (.lst (s.tabs.map .int))
  hm : m ma = some (.lst (s.marks.map mkD))
  hr : m ra = some (.lst (s.rings.map .int))
  tm : ta ≠ ma
  tr : ta ≠ ra
  mr : ma ≠ ra
def Wk (m0 : Store) (w : Addr) (m : Store) (s : LW) : Prop := ∃ ta ma ra, WkAt m0 w m s ta ma ra
def newL (c : Int) (dead : List Nat) (dn : Int) (tabs : List Int) : LW := ⟨c, dead, dn, 0, 0, 0, 2 * c, tabs, false, false, false, [], [], 0⟩
def LW.small (s : LW) (n : Nat) : Prop := s.tabs.length ≤ n ∧ s.marks.length ≤ n ∧ s.rings.length ≤ n
def ph__law_new (A : Ad) : FW := fun ds m R _ => ∃ c dead dn tabs, ds = [machD c dead dn, .tup (tabs.map .int)] ∧ MOk c dead dn ∧ ∀ w m', Wk m w m' (newL c dead dn tabs) → R (.ref w) m'
def shutL (s : LW) (p : Int) : Bool := decide (2 * s.c < p) || (!s.free && decide (s.high < p))
def goL (s : LW) (p : Int) : LW := { s with place := p, rings := if decide (s.place < s.high - 10) && decide (s.high - 10 ≤ p) then s.rings ++ [s.many] else s.rings }
def movedD (row p : Int) : D := .tup [wordD "moved", .int row, .int p]
def lockD : D := .tup [wordD "locked"]
def doneD : D := .tup [wordD "done"]
def ph__law_shut (A : Ad) : FW := fun ds m R _ => ∃ w p m0 s, ds = [.ref w, .int p] ∧ Wk m0 w m s ∧ R (.bl (shutL s p)) m
def ph__law_go (A : Ad) : FW := fun ds m R _ => ∃ w p m0 s, ds = [.ref w, .int p] ∧ Wk m0 w m s ∧ s.rings.length < LIM ∧ ∀ m', Wk m0 w m' (goL s p) → R (movedD s.row p) m'
def asL1 (s : LW) (c : Nat) : Nat := if s.caps then upC c else c
def ph__law_as (A : Ad) : FW := fun ds m R _ => ∃ w c m0 s, ds = [.ref w, ch c] ∧ c < 128 ∧ Wk m0 w m s ∧ R (ch (asL1 s c)) m
end DL
end
section
set_option maxHeartbeats 0
namespace DL
open PySem
inductive Ky where
  | sign (c : Nat) | lift (c : Nat) | blank | half | back | tab | ret | up | down | left | right | set | clear | all | free | ribbon | caps
def kyW : Ky → String
  | .sign _ => "sign" | .lift _ => "lift" | .blank => "blank" | .half => "half" | .back => "back" | .tab => "tab" | .ret => "return" | .up => "up" | .down => "down" | .left => "left" | .right => "right" | .set => "set" | .clear => "clear" | .all => "all" | .free => "free" | .ribbon => "ribbon" | .caps => "caps"
def kyD : Ky → D
  | .sign c => .tup [wordD "sign", ch c]
  | .lift c => .tup [wordD "lift", ch c]
  | k => k1 (kyW k)
def kyOk : Ky → Prop
  | .sign c => c < 128
  | .lift c => c < 128
  | _ => True
def strikeD (w : String) (k : Mk) : D := .tup [wordD w, .int k.row, .int k.place, ch k.sign, colD k.red]
def nothD (row p : Int) : D := .tup [wordD "nothing", .int row, .int p]
def likes (s : LW) (c : Nat) : List Mk := s.marks.filter fun k => decide (k.row = s.row) && decide (k.place = s.place) && decide (k.sign = asL1 s c)
def inkM (s : LW) (st : Bool) (c : Nat) : List Mk × D :=
  if st then (s.marks ++ [⟨s.many, s.row, s.place, asL1 s c, s.red⟩], strikeD "struck" ⟨s.many, s.row, s.place, asL1 s c, s.red⟩)
  else match (likes s c).getLast? with
    | none => (s.marks, nothD s.row s.place)
    | some k => (s.marks.erase k, strikeD "lifted" k)
def inkL (s : LW) (st : Bool) (c : Nat) : LW × D :=
  if shutL s (s.place + 2) = true then (s, lockD)
  else
    let s1 : LW := { s with marks := (inkM s st c).1 }
    (if c ∈ s.dead then s1 else goL s1 (s.place + 2), (inkM s st c).2)
def ph__law_ink (A : Ad) : FW := fun ds m R _ => ∃ w st c m0 s, ds = [.ref w, wordD (if st = true then "sign" else "lift"), ch c] ∧ c < 128 ∧ Wk m0 w m s ∧ (∀ k ∈ s.marks, k.sign < 128) ∧ s.marks.length < 1000000 ∧ s.rings.length < 1000000 ∧ ∀ m', Wk m0 w m' (inkL s st c).1 → R (inkL s st c).2 m'
def turnL (s : LW) : Ky → LW × D
  | .left => if s.place < s.high then ({ s with low := s.place }, doneD) else (s, lockD)
  | .right => if s.low < s.place then ({ s with high := s.place }, doneD) else (s, lockD)
  | .set => ({ s with tabs := s.tabs.filter (fun t => decide (t ≠ s.place)) ++ [s.place] }, doneD)
  | .clear => if s.place ∈ s.tabs then ({ s with tabs := s.tabs.filter (fun t => decide (t ≠ s.place)) }, doneD) else (s, lockD)
  | .all => ({ s with tabs := [] }, doneD)
  | .free => ({ s with free := true }, doneD)
  | .ribbon => ({ s with red := !s.red }, doneD)
  | .caps => ({ s with caps := !s.caps }, doneD)
  | _ => (s, doneD)
def isTurn : Ky → Bool
  | .left => true | .right => true | .set => true | .clear => true | .all => true | .free => true | .ribbon => true | .caps => true
  | _ => false
def ph__law_turn (A : Ad) : FW := fun ds m R _ => ∃ w k m0 s, ds = [.ref w, wordD (kyW k)] ∧ isTurn k = true ∧ Wk m0 w m s ∧ s.tabs.length < 1000000 ∧ ∀ m', Wk m0 w m' (turnL s k).1 → R (turnL s k).2 m'
def onL (s : LW) (p : Int) : LW × D := if shutL s p = true then (s, lockD) else (goL s p, movedD s.row p)
def rowL (s : LW) (r : Int) (home : Bool) : LW × D :=
  if r < 0 ∨ 60 < r then (s, lockD) else if home then ({ s with row := r, place := s.low, free := false }, movedD r s.low) else ({ s with row := r }, movedD r s.place)
def tabL (s : LW) : Int := ((s.tabs.filter fun t => decide (s.place < t)) ++ [999]).min?.getD 0
def stepL1 (s : LW) : Ky → LW × D
  | .back => if s.place < 2 ∨ (s.free = false ∧ s.low ≤ s.place ∧ s.place - 2 < s.low) then (s, lockD) else ({ s with place := s.place - 2 }, movedD s.row (s.place - 2))
  | .ret => rowL s (s.row + s.dn) true
  | .up => rowL s (s.row - 1) false
  | .down => rowL s (s.row + 1) false
  | .blank => onL s (s.place + 2)
  | .half => onL s (s.place + 1)
  | .tab => onL s (tabL s)
  | _ => (s, lockD)
def isStep : Ky → Bool
  | .back => true | .ret => true | .up => true | .down => true | .blank => true | .half => true | .tab => true
  | _ => false
def ph__law_step (A : Ad) : FW := fun ds m R _ => ∃ w k m0 s, ds = [.ref w, wordD (kyW k)] ∧ isStep k = true ∧ Wk m0 w m s ∧ s.tabs.length < 1000000 ∧ s.rings.length < 1000000 ∧ ∀ m', Wk m0 w m' (stepL1 s k).1 → R (stepL1 s k).2 m'
def actL (s : LW) : Ky → LW × D
  | .sign c => inkL s true c
  | .lift c => inkL s false c
  | k => if isTurn k then turnL s k else stepL1 s k
def pressL (s : LW) (k : Ky) : LW × D := ({ (actL s k).1 with many := (actL s k).1.many + 1 }, (actL s k).2)
structure LW.sm (s : LW) (n : Nat) : Prop where
  t : s.tabs.length ≤ n
  m : s.marks.length ≤ n
  r : s.rings.length ≤ n
  g : ∀ k ∈ s.marks, k.sign < 128
def ph__law_press (A : Ad) : FW := fun ds m R _ => ∃ w k m0 s n, ds = [.ref w, kyD k] ∧ kyOk k ∧ Wk m0 w m s ∧ s.sm n ∧ n < 1000000 ∧ ∀ m', Wk m0 w m' (pressL s k).1 → (pressL s k).1.sm (n + 1) → R (pressL s k).2 m'
def runL (s : LW) : List Ky → LW × List D
  | [] => (s, [])
  | k :: ks => ((runL (pressL s k).1 ks).1, (pressL s k).2 :: (runL (pressL s k).1 ks).2)
def seqD (b : Bool) (xs : List D) : D := match b with | true => .lst xs | false => .tup xs
theorem seqD_I (b : Bool) (xs : List D) (m : Store) (K : List D → (Store → Prop) → Prop) : asI m (seqD b xs) K = K xs fun _ => True := by cases b <;> rfl
def ph__law_worked (A : Ad) : FW := fun ds m R _ => ∃ c dead dn tabs ks b, ds = [machD c dead dn, .tup (tabs.map .int), seqD b (ks.map kyD)] ∧ MOk c dead dn ∧ (∀ k ∈ ks, kyOk k) ∧ tabs.length + ks.length < 500000 ∧
  ∀ w m', Wk m w m' (runL (newL c dead dn tabs) ks).1 → R (.tup [.ref w, .lst (runL (newL c dead dn tabs) ks).2]) m'
def marD (l r : Int) : List D := onD r ++ [k1 "right", k1 "return"] ++ (onD l ++ [k1 "left"])
def ph__law_margins (A : Ad) : FW := fun ds m R _ => ∃ l r, ds = [.int l, .int r] ∧ 0 ≤ l ∧ l ≤ 1000 ∧ 0 ≤ r ∧ r ≤ 1000 ∧ R (.tup (marD l r)) m
end DL
end
section
set_option maxHeartbeats 0
namespace DL
open PySem
def fldP (C : Addr) (m : Store) (p : Addr) (f : Str) (R : KD) : Prop := ∃ fs d, m p = some (.ins C fs) ∧ lookD fs f = some d ∧ R d m
@[simp] theorem e_fld (C : Addr) (f : Str) (a : WE) (r : Env) (m : Store) (R : KD) (x : XD) : wFld C f a r m R x = a r m (fun u m1 => match u with | .ref p => fldP C m1 p f R | _ => False) x := (rfl)
def fldS (C : Addr) (m : Store) (p : Addr) (f : Str) (y : D) (K : Store → Prop) : Prop := ∃ fs, m p = some (.ins C fs) ∧ fs.length < 1000 ∧ K (sup m p (.ins C (putD f y fs)))
@[simp] theorem s_fldS (C : Addr) (f : Str) (a v : WE) (r : Env) (m : Store) (k : SK) : wFldS C f a v r m k = v r m (fun y m1 => a r m1 (fun u m2 => match u with | .ref p => fldS C m2 p f y (fun m3 => k.nx r m3) | _ => False) k.ex) k.ex := (rfl)
def ownP (C : Addr) (m : Store) (p : Addr) (nm : Str) (K : Prop) : Prop := ∃ fs, m p = some (.ins C fs) ∧ lookD fs nm = none ∧ K
@[simp] theorem e_own1 (C : Addr) (nm : Str) (n : Nat) (f : FW) (o : WE) (a : WA) (r : Env) (m : Store) (R : KD) (x : XD) : wOwn1 C nm n f o a r m R x = o r m (fun u m1 => match u with | .ref p => ownP C m1 p nm (a r m1 (fun us m2 => us.length + 1 = n ∧ f (.ref p :: us) m2 R x) x) | _ => False) x := (rfl)
@[simp] theorem e_make (C : Addr) (n : Nat) (f : FW) (a : WA) (r : Env) (m : Store) (R : KD) (x : XD) : wMake C n f a r m R x = a r m (fun us m1 => us.length + 1 = n ∧ ∀ p, m1 p = none → f (.ref p :: us) (sup m1 p (.ins C [])) (fun d m2 => d = .non ∧ R (.ref p) m2) x) x := (rfl)
@[simp] theorem e_srtSetI (b : Bool) (a : WE) (r : Env) (m : Store) (R : KD) (x : XD) : wSrtSetI b a r m R x = a r m (fun u m1 => ∃ ns : List Int, asL m1 u = some (ns.map .int) ∧ ns.length < 4000 ∧ ∀ ns' : List Int, ns'.Pairwise (· < ·) → (∀ k, k ∈ ns' ↔ k ∈ ns) → wNw b (ns'.map .int) m1 R) x := (rfl)
def tabsS (ts : List Int) : List Int := ts.mergeSort (fun a b => decide (a ≤ b))
def maD (s : LW) (ta ma ra : Addr) : List (Str × D) :=
  [("dead", .tup (s.dead.map ch)), ("down", .int s.dn), ("end", .int (2 * s.c)), ("row", .int s.row), ("place", .int s.place), ("low", .int s.low), ("high", .int s.high), ("tabs", .ref ta), ("colour", colD s.red), ("caps", .bl s.caps), ("is_free", .bl s.free), ("marks", .ref ma), ("rings", .ref ra), ("many", .int s.many)]
structure MaAt (A : Ad) (m0 : Store) (p : Addr) (m : Store) (s : LW) (ta ma ra : Addr) : Prop where
  sub : Sub m0 m
  np : m0 p = none
  nt : m0 ta = none
  nm : m0 ma = none
  nr : m0 ra = none
  hp : m p = some (.ins A.cMachine (maD s ta ma ra))
  ht : m ta = some (.lst ((tabsS s.tabs).map .int))
  hm : m ma = some (.lst (s.marks.map mkD))
  hr : m ra = some (.lst (s.rings.map .int))
  tm : ta ≠ ma
  tr : ta ≠ ra
  mr : ma ≠ ra
def Ma (A : Ad) (m0 : Store) (p : Addr) (m : Store) (s : LW) : Prop := ∃ ta ma ra, MaAt A m0 p m s ta ma ra
structure LW.ok (s : LW) : Prop where
  c0 : 8 ≤ s.c
  c1 : s.c ≤ 40
  d2 : 2 ≤ s.dn
  d4 : s.dn ≤ 4
  p0 : 0 ≤ s.place
  p1 : s.place ≤ 2 * s.c
  l0 : 0 ≤ s.low
  l1 : s.low ≤ 2 * s.c
  h0 : 0 ≤ s.high
  h1 : s.high ≤ 2 * s.c
  r0 : 0 ≤ s.row
  r1 : s.row ≤ 60
  td : s.tabs.Nodup
  tb : ∀ t ∈ s.tabs, 0 ≤ t ∧ t ≤ 2 * s.c
  mn : s.marks.Pairwise (fun a b => a.n < b.n)
  mb : ∀ k ∈ s.marks, k.n < s.many
  m0 : 0 ≤ s.many
def ph_struck_as (A : Ad) : FW := fun ds m R _ => ∃ c b, ds = [ch c, .bl b] ∧ R (ch (if b = true then upC c else c)) m
def ph_Machine___init__ (A : Ad) : FW := fun ds m R _ => ∃ p c dead dn m0, ds = [.ref p, machD c dead dn, .tup []] ∧ MOk c dead dn ∧ m0 p = none ∧ m = sup m0 p (.ins A.cMachine []) ∧ ∀ m', Ma A m0 p m' (newL c dead dn []) → R .non m'
def ph_Machine_is_locked (A : Ad) : FW := fun ds m R _ => ∃ p q m0 s, ds = [.ref p, .int q] ∧ Ma A m0 p m s ∧ R (.bl (shutL s q)) m
def ph_Machine_go_on (A : Ad) : FW := fun ds m R _ => ∃ p q m0 s, ds = [.ref p, .int q] ∧ Ma A m0 p m s ∧ s.rings.length < 1000000 ∧ ∀ m', Ma A m0 p m' (goL s q) → R .non m'
def ph_Machine_strike (A : Ad) : FW := fun ds m R _ => ∃ p c m0 s, ds = [.ref p, ch c] ∧ Ma A m0 p m s ∧ s.marks.length < 1000000 ∧ s.rings.length < 1000000 ∧ ∀ m', Ma A m0 p m' (inkL s true c).1 → R (inkL s true c).2 m'
def ph_Machine_lift (A : Ad) : FW := fun ds m R _ => ∃ p c m0 s, ds = [.ref p, ch c] ∧ c < 128 ∧ Ma A m0 p m s ∧ s.ok ∧ (∀ k ∈ s.marks, k.sign < 128) ∧ s.marks.length < 1000000 ∧ s.rings.length < 1000000 ∧ ∀ m', Ma A m0 p m' (inkL s false c).1 → R (inkL s false c).2 m'
def isMove : Ky → Bool
  | .back => true | .blank => true | .half => true | .tab => true
  | _ => false
def isRoll : Ky → Bool
  | .ret => true | .up => true | .down => true
  | _ => false
def ph_Machine_move (A : Ad) : FW := fun ds m R _ => ∃ p k m0 s, ds = [.ref p, wordD (kyW k)] ∧ isMove k = true ∧ Ma A m0 p m s ∧ s.ok ∧ s.rings.length < 1000000 ∧ ∀ m', Ma A m0 p m' (stepL1 s k).1 → R (stepL1 s k).2 m'
def ph_Machine_roll (A : Ad) : FW := fun ds m R _ => ∃ p k m0 s, ds = [.ref p, wordD (kyW k)] ∧ isRoll k = true ∧ Ma A m0 p m s ∧ ∀ m', Ma A m0 p m' (stepL1 s k).1 → R (stepL1 s k).2 m'
def ph_Machine_set_up (A : Ad) : FW := fun ds m R _ => ∃ p k m0 s, ds = [.ref p, wordD (kyW k)] ∧ isTurn k = true ∧ Ma A m0 p m s ∧ s.ok ∧ ∀ m', Ma A m0 p m' (turnL s k).1 → R (turnL s k).2 m'
def ph_Machine_press (A : Ad) : FW := fun ds m R _ => ∃ p k m0 s n, ds = [.ref p, kyD k] ∧ kyOk k ∧ Ma A m0 p m s ∧ s.ok ∧ s.sm n ∧ n < 1000000 ∧ ∀ m', Ma A m0 p m' (pressL s k).1 → (pressL s k).1.ok → (pressL s k).1.sm (n + 1) → R (pressL s k).2 m'
def standD (s : LW) : D := .tup [.int s.row, .int s.place, .int s.low, .int s.high, .tup ((tabsS s.tabs).map .int), colD s.red, .bl s.caps, .bl s.free]
def ph_Machine_stand (A : Ad) : FW := fun ds m R _ => ∃ p m0 s, ds = [.ref p] ∧ Ma A m0 p m s ∧ R (standD s) m
def keyWords : List String := ["blank", "half", "back", "tab", "return", "up", "down", "left", "right", "set", "clear", "all", "free", "ribbon", "caps"]
def isKeyB : D → Bool
  | .tup (.str w :: rest) =>
    if w = PySem.Str.ofString "sign" ∨ w = PySem.Str.ofString "lift" then (match rest with | [x] => oneOfB x G_SIGNS | _ => false)
    else match rest with | [] => decide (w ∈ keyWords.map PySem.Str.ofString) | _ => false
  | _ => false
def keysB : D → Bool
  | .tup xs => decide (xs.length ≤ 4000) && xs.all isKeyB
  | _ => false
def ph_is_key (A : Ad) : FW := fun ds m R _ => ∃ d, ds = [d] ∧ arg m d ∧ R (.bl (isKeyB d)) m
def kyG : Ky → Prop
  | .sign c => c ∈ G_SIGNS.cps.toList
  | .lift c => c ∈ G_SIGNS.cps.toList
  | _ => True
def newS (c : Int) (dead : List Nat) (dn : Int) : LW := newL c dead dn []
def ph_worked (A : Ad) : FW := fun ds m R _ => ∃ (c : Int) (dead : List Nat) (dn : Int) (ks : List Ky), ds = [machD c dead dn, .tup [], .tup (ks.map kyD)] ∧ MOk c dead dn ∧ (∀ k ∈ ks, kyOk k) ∧ ks.length ≤ 4000 ∧
  ∀ p m', Ma A m p m' (runL (newS c dead dn) ks).1 → R (.tup [.ref p, .lst (runL (newS c dead dn) ks).2]) m'
def inKeys (A : Ad) (m : Store) (d : D) (x : XD) (K : List Ky → Prop) : Prop := arg m d ∧ (keysB d = false → x A.xNoKeys m) ∧ ∀ ks, d = .tup (ks.map kyD) → (∀ k ∈ ks, kyG k) → ks.length ≤ 4000 → K ks
theorem inKeys.imp {A : Ad} {m : Store} {d : D} {x : XD} {K K' : List Ky → Prop} (h : inKeys A m d x K) (f : ∀ ks, d = .tup (ks.map kyD) → (∀ k ∈ ks, kyG k) → ks.length ≤ 4000 → K ks → K' ks) : inKeys A m d x K' := ⟨h.1, h.2.1, fun ks e hk hl => f ks e hk hl (h.2.2 ks e hk hl)⟩
def ph_need_keys (A : Ad) : FW := fun ds m R x => ∃ d, ds = [d] ∧ inKeys A m d x fun _ => R .non m
def inBoth (A : Ad) (m : Store) (dm dk : D) (x : XD) (K : Int → List Nat → Int → List Ky → Prop) : Prop := inMach A m dm x fun c dead dn => inKeys A m dk x (K c dead dn)
def ph_need_both (A : Ad) : FW := fun ds m R x => ∃ dm dk, ds = [dm, dk] ∧ inBoth A m dm dk x fun _ _ _ _ => R .non m
def ph_pressed (A : Ad) : FW := fun ds m R x => ∃ dm dk, ds = [dm, dk] ∧ inBoth A m dm dk x fun c dead dn ks => R (.lst (runL (newS c dead dn) ks).2) m
def ph_state (A : Ad) : FW := fun ds m R x => ∃ dm dk, ds = [dm, dk] ∧ inBoth A m dm dk x fun c dead dn ks => R (standD (runL (newS c dead dn) ks).1) m
def ph_rung (A : Ad) : FW := fun ds m R x => ∃ dm dk, ds = [dm, dk] ∧ inBoth A m dm dk x fun c dead dn ks => R (.lst ((runL (newS c dead dn) ks).1.rings.map .int)) m
end DL
end
section
set_option maxHeartbeats 0
namespace DL
open PySem
theorem keyOf_len (c : Nat) : (keyOf c).length ≤ 3 := by unfold keyOf; split <;> (try split) <;> simp
theorem keysOf_len : ∀ cs : List Nat, (keysOf cs).length ≤ 3 * cs.length
  | [] => by simp [keysOf]
  | c :: cs => by
    have h1 := keyOf_len c
    have h2 := keysOf_len cs
    simp [keysOf] at h2 ⊢
    omega
theorem keysOf_snoc (cs : List Nat) (c : Nat) : keysOf (cs ++ [c]) = keysOf cs ++ keyOf c := by simp [keysOf]
theorem LIMv : LIM = 16777216 := rfl
theorem repD_one (k : Nat) (d : D) : repD k [d] = List.replicate k d := by
  unfold repD
  induction k with
  | zero => rfl
  | succ k ih => rw [List.replicate_succ, List.flatten_cons, ih]; rfl
theorem atL_nat {α : Type} (xs : List α) (i : Nat) : atL xs (i : Int) = xs[i]? := by
  unfold atL
  rw [ixA]
  by_cases h : i < xs.length
  · simp [h]
  · simp [h]
theorem atL_some {α : Type} {xs : List α} {i : Int} (h0 : 0 ≤ i) (h1 : i < xs.length) : ∃ v, v ∈ xs ∧ atL xs i = some v := by
  obtain ⟨n, rfl⟩ := Int.eq_ofNat_of_zero_le h0
  have hn : n < xs.length := by omega
  exact ⟨xs[n], List.getElem_mem hn, by rw [atL_nat, List.getElem?_eq_getElem hn]⟩
theorem cut13 (k : Mk) : cutL [D.int k.n, .int k.row, .int k.place, ch k.sign, colD k.red] (some 1) (some 4) = [.int k.row, .int k.place, ch k.sign] := rfl
theorem eq_likes (k : Mk) (row place : Int) (c : Nat) : eqD (.tup [.int k.row, .int k.place, ch k.sign]) (.tup [.int row, .int place, ch c]) = (decide (k.row = row) && decide (k.place = place) && decide (k.sign = c)) := by
  simp [eqD, eqDs, Bool.and_assoc]
theorem ok_ch (c : Nat) (n : Nat) (h : c < 128) : dOk (ch c) n = true := by
  simp [dOk, okS]; omega
theorem ok_word (s : String) (n : Nat) (h : okS (PySem.Str.ofString s) = true) : dOk (wordD s) n = true := by
  simpa [dOk, wordD] using h
theorem ok_col (b : Bool) (n : Nat) : dOk (colD b) n = true := by
  cases b
  · exact ok_word "black" n (by decide +kernel)
  · exact ok_word "red" n (by decide +kernel)
theorem eq_col (a b : Bool) : eqD (colD a) (colD b) = decide (a = b) := by
  cases a <;> cases b <;> simp [colD, eqD, wordD]
theorem eq_mk (a b : Mk) : eqD (mkD a) (mkD b) = decide (a = b) := by
  obtain ⟨n, r, p, s, c⟩ := a
  obtain ⟨n', r', p', s', c'⟩ := b
  simp [mkD, eqD, eqDs, eq_col]
theorem ok_mk (k : Mk) (n : Nat) (h : k.sign < 128) : dOk (mkD k) (n + 1) = true := by
  simp [mkD, dOk, dOks, ok_col, okS]; omega
theorem ok_mks : ∀ (ks : List Mk) (n : Nat), (∀ k ∈ ks, k.sign < 128) → dOks (ks.map mkD) (n + 1) = true
  | [], n, _ => rfl
  | k :: ks, n, h => by
    rw [List.map_cons, dOks, ok_mk k n (h k List.mem_cons_self), ok_mks ks n fun z hz => h z (List.mem_cons_of_mem _ hz)]; rfl
theorem erase_mk (ks : List Mk) (k : Mk) (h : k ∈ ks) : ∃ j, (ks.map mkD)[j]? = some (mkD k) ∧ (∀ i z, i < j → (ks.map mkD)[i]? = some z → eqD z (mkD k) = false) ∧ (ks.map mkD).eraseIdx j = (ks.erase k).map mkD := by
  induction ks with
  | nil => cases h
  | cons a ks ih =>
    by_cases e : a = k
    · subst e
      exact ⟨0, rfl, fun i z hi => absurd hi (by omega), by simp⟩
    · obtain ⟨j, h1, h2, h3⟩ := ih (by rcases List.mem_cons.mp h with z | z; exact absurd z.symm e; exact z)
      refine ⟨j + 1, h1, fun i z hi hz => ?_, ?_⟩
      · cases i with
        | zero =>
          have hz' : mkD a = z := by simpa using hz
          subst hz'
          rw [eq_mk]
          simp [e]
        | succ i => exact h2 i z (by omega) (by simpa using hz)
      · rw [List.map_cons, List.eraseIdx_cons_succ, h3, List.erase_cons_tail (by simpa using e)]; rfl
theorem upC_lt {c : Nat} (h : c < 128) : upC c < 128 := by unfold upC; split <;> omega
theorem loC_lt {c : Nat} (h : c < 128) : loC c < 128 := by unfold loC; split <;> omega
theorem asL1_lt {s : LW} {c : Nat} (h : c < 128) : asL1 s c < 128 := by
  unfold asL1
  split
  · exact upC_lt h
  · exact h
theorem in_dead {A : Ad} (hA : AdOk A) {dead : List Nat} {k : Nat} {b : Bool} {m : Store} {R : KD} (h : R (.bl (decide (k ∉ dead))) m) : wNotIn (ch k) (.tup (dead.map ch)) m R := by
  refine ⟨rfl, by simp [flatD], ?_⟩
  have e : inD (ch k) (dead.map ch) = decide (k ∈ dead) := by
    simp only [inD, List.any_map]
    rw [Bool.eq_iff_iff]
    simp [eqD, Function.comp]
  rw [e]
  simpa using h
theorem lc_each {G : Store → Prop} {vs : List Nat} {i : Nat} {e : WE} {r : Env} {m : Store} (g : D → D) (hG : G m) (xs acc : List D) (K : List D → Store → Prop) (hl : acc.length + xs.length ≤ LIM)
    (h : ∀ a ∈ xs, ∀ K1 : KD, K1 (g a) m → e (put (wipeD r vs) i (some a)) m K1 (fun _ _ => False)) (q : K (acc ++ xs.map g) m) : wLcL G vs (gNm i) wYes e r xs acc m K := by
  have := lc_map (G := G) (vs := vs) (i := i) (e := e) (r := r) (m := m) id g hG xs acc K hl h q
  rwa [List.map_id] at this
theorem arg_ty {m : Store} {d : D} (h : arg m d) : ∃ n, tyN m d = some n ∧ ((∃ xs, d = .tup xs ∧ n = "tuple") ∨ ((∀ xs, d ≠ .tup xs) ∧ n ≠ "tuple")) := by
  rcases h with ⟨h, _⟩ | ⟨a, kvs, rfl, e⟩
  · cases d <;> simp [dOk, tyN] at h ⊢
  · simp [tyN, e]
theorem sz_at : ∀ {xs : List D} {d : D}, szOks xs = true → d ∈ xs → szOk d = true
  | x :: xs, d, h, hm => by
    have h' : szOk x = true ∧ szOks xs = true := by simpa [szOks] using h
    rcases List.mem_cons.mp hm with e | e
    · rw [e]; exact h'.1
    · exact sz_at h'.2 e
theorem dok_at : ∀ {xs : List D} {n : Nat} {d : D}, dOks xs n = true → d ∈ xs → dOk d n = true
  | x :: xs, n, d, h, hm => by
    have h' : dOk x n = true ∧ dOks xs n = true := by simpa [dOks] using h
    rcases List.mem_cons.mp hm with e | e
    · rw [e]; exact h'.1
    · exact dok_at h'.2 e
mutual
theorem dok_up : ∀ (d : D) (n : Nat), dOk d n = true → dOk d (n + 1) = true
  | .non, _, _ => by simp [dOk]
  | .bl _, _, _ => by simp [dOk]
  | .int _, _, _ => by simp [dOk]
  | .str s, _, h => by simp [dOk] at h ⊢; exact h
  | .tup xs, n + 1, h => by rw [dOk] at h ⊢; exact doks_up xs n h
  | .lst xs, n + 1, h => by rw [dOk] at h ⊢; exact doks_up xs n h
  | .tup xs, 0, h => by simp [dOk] at h
  | .lst xs, 0, h => by simp [dOk] at h
  | .ref a, n, h => by simp [dOk] at h
  | .scr a, n, h => by simp [dOk] at h
  | .ty a, n, h => by simp [dOk] at h
theorem doks_up : ∀ (xs : List D) (n : Nat), dOks xs n = true → dOks xs (n + 1) = true
  | [], _, _ => rfl
  | x :: xs, n, h => by
    have h' : dOk x n = true ∧ dOks xs n = true := by simpa [dOks] using h
    rw [dOks, dok_up x n h'.1, doks_up xs n h'.2]; rfl
end
theorem dok_ty {m : Store} {d : D} {n : Nat} (h : dOk d n = true) : (tyN m d).isSome = true := by
  cases d <;> simp [dOk, tyN] at h ⊢
theorem doks_all : ∀ {xs : List D} {n : Nat}, (∀ d ∈ xs, dOk d n = true) → dOks xs n = true
  | [], n, _ => rfl
  | x :: xs, n, h => by rw [dOks, h x List.mem_cons_self, doks_all fun d hd => h d (List.mem_cons_of_mem _ hd)]; rfl
theorem szs_all : ∀ {xs : List D}, (∀ d ∈ xs, szOk d = true) → szOks xs = true
  | [], _ => rfl
  | x :: xs, h => by rw [szOks, h x List.mem_cons_self, szs_all fun d hd => h d (List.mem_cons_of_mem _ hd)]; rfl
end DL
end
section
set_option maxHeartbeats 0
namespace DL
open PySem
theorem rise_ext : ∀ {xs ys : List Int}, xs.Pairwise (· < ·) → ys.Pairwise (· < ·) → (∀ k, k ∈ xs ↔ k ∈ ys) → xs = ys
  | [], [], _, _, _ => rfl
  | [], y :: ys, _, _, h => absurd ((h y).mpr List.mem_cons_self) (by simp)
  | x :: xs, [], _, _, h => absurd ((h x).mp List.mem_cons_self) (by simp)
  | x :: xs, y :: ys, hx, hy, h => by
    obtain ⟨x1, x2⟩ := List.pairwise_cons.mp hx
    obtain ⟨y1, y2⟩ := List.pairwise_cons.mp hy
    have e : x = y := by
      rcases List.mem_cons.mp ((h x).mp List.mem_cons_self) with e | e
      · exact e
      · rcases List.mem_cons.mp ((h y).mpr List.mem_cons_self) with e' | e'
        · exact e'.symm
        · have := x1 y e'; have := y1 x e; omega
    subst e
    rw [rise_ext x2 y2 fun k => ?_]
    have hk := h k
    constructor
    · intro m
      rcases List.mem_cons.mp (hk.mp (List.mem_cons_of_mem _ m)) with e | e
      · subst e; have := x1 k m; omega
      · exact e
    · intro m
      rcases List.mem_cons.mp (hk.mpr (List.mem_cons_of_mem _ m)) with e | e
      · subst e; have := y1 k m; omega
      · exact e
theorem rise_len : ∀ {xs : List Int} {lo hi : Int}, xs.Pairwise (· < ·) → (∀ k ∈ xs, lo ≤ k ∧ k ≤ hi) → (xs.length : Int) ≤ max 0 (hi - lo + 1)
  | [], lo, hi, _, _ => by simp; omega
  | x :: xs, lo, hi, h, b => by
    obtain ⟨h1, h2⟩ := List.pairwise_cons.mp h
    have b0 := b x List.mem_cons_self
    have ih := rise_len (lo := x + 1) (hi := hi) h2 fun k hk => ⟨by have := h1 k hk; omega, (b k (List.mem_cons_of_mem _ hk)).2⟩
    simp only [List.length_cons]
    omega
theorem lt_of_le_nd : ∀ {l : List Int}, l.Pairwise (· ≤ ·) → l.Nodup → l.Pairwise (· < ·)
  | [], _, _ => .nil
  | x :: l, h, d => by
    obtain ⟨h1, h2⟩ := List.pairwise_cons.mp h
    obtain ⟨d1, d2⟩ := List.nodup_cons.mp d
    refine List.pairwise_cons.mpr ⟨fun y hy => ?_, lt_of_le_nd h2 d2⟩
    have := h1 y hy
    have : x ≠ y := fun e => d1 (e ▸ hy)
    omega
theorem nd_of_lt {l : List Int} (h : l.Pairwise (· < ·)) : l.Nodup := h.imp fun h e => by omega
theorem tabsS_perm (ts : List Int) : (tabsS ts).Perm ts := List.mergeSort_perm _ _
theorem tabsS_mem (ts : List Int) (k : Int) : k ∈ tabsS ts ↔ k ∈ ts := (tabsS_perm ts).mem_iff
theorem tabsS_le (ts : List Int) : (tabsS ts).Pairwise (· ≤ ·) := by
  have h := List.pairwise_mergeSort (le := fun a b : Int => decide (a ≤ b)) (fun a b c h1 h2 => by simp at h1 h2 ⊢; omega) (fun a b => by simp; omega) ts
  exact h.imp fun h => by simpa using h
theorem tabsS_lt {ts : List Int} (h : ts.Nodup) : (tabsS ts).Pairwise (· < ·) := lt_of_le_nd (tabsS_le ts) ((tabsS_perm ts).nodup_iff.mpr h)
theorem tabsS_is {ts ns : List Int} (h : ts.Nodup) (h1 : ns.Pairwise (· < ·)) (h2 : ∀ k, k ∈ ns ↔ k ∈ ts) : ns = tabsS ts :=
  rise_ext h1 (tabsS_lt h) fun k => by rw [h2, tabsS_mem]
theorem tabsS_of_perm {ts ns : List Int} (h : ts.Nodup) (h1 : ns.Pairwise (· ≤ ·)) (h2 : ns.Perm ts) : ns = tabsS ts :=
  tabsS_is h (lt_of_le_nd h1 (h2.nodup_iff.mpr h)) fun k => h2.mem_iff
theorem LW.ok.tl {s : LW} (h : s.ok) : s.tabs.length ≤ 81 := by
  have h1 := rise_len (lo := 0) (hi := 2 * s.c) (tabsS_lt h.td) fun k hk => h.tb k ((tabsS_mem _ k).mp hk)
  have h2 := (tabsS_perm s.tabs).length_eq
  have := h.c1
  omega
theorem new_ok {c : Int} {dead : List Nat} {dn : Int} (h : MOk c dead dn) : (newS c dead dn).ok := by
  have h1 := h.lo; have h2 := h.hi
  refine ⟨h1, h2, h.d2, h.d4, ?_, ?_, ?_, ?_, ?_, ?_, ?_, ?_, ?_, ?_, ?_, ?_, ?_⟩ <;> first | (show (_ : Int) ≤ _; simp [newS, newL]; done) | (show (_ : Int) ≤ _; simp [newS, newL]; omega) | simp [newS, newL]
theorem ok_go {s : LW} {q : Int} (h : s.ok) (h0 : 0 ≤ q) (h1 : q ≤ 2 * s.c) : (goL s q).ok :=
  ⟨h.c0, h.c1, h.d2, h.d4, h0, h1, h.l0, h.l1, h.h0, h.h1, h.r0, h.r1, h.td, h.tb, h.mn, h.mb, h.m0⟩
theorem shut_no {s : LW} {q : Int} (h : ¬ shutL s q = true) : q ≤ 2 * s.c := by
  simp [shutL] at h; omega
theorem ok_on {s : LW} {q : Int} (h : s.ok) (h0 : 0 ≤ q) : (onL s q).1.ok := by
  unfold onL
  split
  · exact h
  · rename_i hs; exact ok_go h h0 (shut_no hs)
theorem ok_row {s : LW} {r : Int} {b : Bool} (h : s.ok) : (rowL s r b).1.ok := by
  unfold rowL
  split
  · exact h
  · split
    · exact ⟨h.c0, h.c1, h.d2, h.d4, h.l0, h.l1, h.l0, h.l1, h.h0, h.h1, by show 0 ≤ r; omega, by show r ≤ 60; omega, h.td, h.tb, h.mn, h.mb, h.m0⟩
    · exact ⟨h.c0, h.c1, h.d2, h.d4, h.p0, h.p1, h.l0, h.l1, h.h0, h.h1, by show 0 ≤ r; omega, by show r ≤ 60; omega, h.td, h.tb, h.mn, h.mb, h.m0⟩
theorem ok_marks {s : LW} (h : s.ok) {ms : List Mk} (h1 : ms.Pairwise (fun a b => a.n < b.n)) (h2 : ∀ k ∈ ms, k.n < s.many) : LW.ok { s with marks := ms } :=
  ⟨h.c0, h.c1, h.d2, h.d4, h.p0, h.p1, h.l0, h.l1, h.h0, h.h1, h.r0, h.r1, h.td, h.tb, h1, h2, h.m0⟩
theorem tab_min (s : LW) : tabL s = 999 ∨ (tabL s ∈ s.tabs ∧ s.place < tabL s) := by
  unfold tabL
  cases e : ((s.tabs.filter fun t => decide (s.place < t)) ++ [999]).min? with
  | none => simp at e
  | some v =>
    have hv := List.mem_of_mem_head? (l := [v]) (a := v) (by simp)
    have hm : v ∈ (s.tabs.filter fun t => decide (s.place < t)) ++ [999] := List.min?_mem e
    rcases List.mem_append.mp hm with z | z
    · simp at z; exact .inr z
    · simp at z; exact .inl z
theorem ok_step {s : LW} {k : Ky} (h : s.ok) : (stepL1 s k).1.ok := by
  have p0 := h.p0; have p1 := h.p1
  cases k <;> simp only [stepL1] <;> first | exact h | exact ok_row h | skip
  · exact ok_on h (by omega)
  · exact ok_on h (by omega)
  · split
    · exact h
    · exact ⟨h.c0, h.c1, h.d2, h.d4, by show 0 ≤ s.place - 2; omega, by show s.place - 2 ≤ 2 * s.c; omega, h.l0, h.l1, h.h0, h.h1, h.r0, h.r1, h.td, h.tb, h.mn, h.mb, h.m0⟩
  · refine ok_on h ?_
    rcases tab_min s with e | e
    · rw [e]; decide
    · exact (h.tb _ e.1).1
theorem nd_filter {ts : List Int} (h : ts.Nodup) (p : Int) : (ts.filter (fun t => decide (t ≠ p)) ++ [p]).Nodup := by
  rw [List.nodup_append]
  refine ⟨h.filter _, by simp, fun a ha b hb => ?_⟩
  simp at ha hb
  intro e; exact ha.2 (e.trans hb)
theorem ok_turn {s : LW} {k : Ky} (h : s.ok) : (turnL s k).1.ok := by
  cases k <;> simp only [turnL] <;> first | exact h | skip
  · split
    · exact ⟨h.c0, h.c1, h.d2, h.d4, h.p0, h.p1, h.p0, h.p1, h.h0, h.h1, h.r0, h.r1, h.td, h.tb, h.mn, h.mb, h.m0⟩
    · exact h
  · split
    · exact ⟨h.c0, h.c1, h.d2, h.d4, h.p0, h.p1, h.l0, h.l1, h.p0, h.p1, h.r0, h.r1, h.td, h.tb, h.mn, h.mb, h.m0⟩
    · exact h
  · refine ⟨h.c0, h.c1, h.d2, h.d4, h.p0, h.p1, h.l0, h.l1, h.h0, h.h1, h.r0, h.r1, nd_filter h.td _, fun t ht => ?_, h.mn, h.mb, h.m0⟩
    rcases List.mem_append.mp ht with z | z
    · exact h.tb t (List.mem_filter.mp z).1
    · simp at z; subst z; exact ⟨h.p0, h.p1⟩
  · split
    · exact ⟨h.c0, h.c1, h.d2, h.d4, h.p0, h.p1, h.l0, h.l1, h.h0, h.h1, h.r0, h.r1, h.td.filter _, fun t ht => h.tb t (List.mem_filter.mp ht).1, h.mn, h.mb, h.m0⟩
    · exact h
  · exact ⟨h.c0, h.c1, h.d2, h.d4, h.p0, h.p1, h.l0, h.l1, h.h0, h.h1, h.r0, h.r1, .nil, fun t ht => by simp at ht, h.mn, h.mb, h.m0⟩
  · exact ⟨h.c0, h.c1, h.d2, h.d4, h.p0, h.p1, h.l0, h.l1, h.h0, h.h1, h.r0, h.r1, h.td, h.tb, h.mn, h.mb, h.m0⟩
  · exact ⟨h.c0, h.c1, h.d2, h.d4, h.p0, h.p1, h.l0, h.l1, h.h0, h.h1, h.r0, h.r1, h.td, h.tb, h.mn, h.mb, h.m0⟩
  · exact ⟨h.c0, h.c1, h.d2, h.d4, h.p0, h.p1, h.l0, h.l1, h.h0, h.h1, h.r0, h.r1, h.td, h.tb, h.mn, h.mb, h.m0⟩
theorem inkM_n {s : LW} {st : Bool} {c : Nat} (h : s.ok) : (inkM s st c).1.Pairwise (fun a b => a.n < b.n) ∧ ∀ k ∈ (inkM s st c).1, k.n < s.many + 1 := by
  unfold inkM
  split
  · refine ⟨List.pairwise_append.mpr ⟨h.mn, by simp, fun a ha b hb => ?_⟩, fun k hk => ?_⟩
    · simp at hb; subst hb; exact h.mb a ha
    · rcases List.mem_append.mp hk with z | z
      · have := h.mb k z; omega
      · simp at z; subst z; show s.many < s.many + 1; omega
  · split
    · exact ⟨h.mn, fun k hk => by have := h.mb k hk; omega⟩
    · exact ⟨h.mn.sublist List.erase_sublist, fun k hk => by have := h.mb k (List.mem_of_mem_erase hk); omega⟩
theorem ok_many {s : LW} (h : s.ok) : LW.ok { s with many := s.many + 1 } :=
  ⟨h.c0, h.c1, h.d2, h.d4, h.p0, h.p1, h.l0, h.l1, h.h0, h.h1, h.r0, h.r1, h.td, h.tb, h.mn, fun k hk => by have := h.mb k hk; show k.n < s.many + 1; omega, by have := h.m0; show 0 ≤ s.many + 1; omega⟩
theorem ok_ink {s : LW} {st : Bool} {c : Nat} (h : s.ok) : LW.ok { (inkL s st c).1 with many := (inkL s st c).1.many + 1 } := by
  unfold inkL
  split
  · exact ok_many h
  · rename_i hs
    have hq := shut_no hs
    have hp := h.p0
    obtain ⟨h1, h2⟩ := inkM_n (st := st) (c := c) h
    simp only
    split
    · exact ⟨h.c0, h.c1, h.d2, h.d4, h.p0, h.p1, h.l0, h.l1, h.h0, h.h1, h.r0, h.r1, h.td, h.tb, h1, h2, by have := h.m0; show 0 ≤ s.many + 1; omega⟩
    · exact ⟨h.c0, h.c1, h.d2, h.d4, by show 0 ≤ s.place + 2; omega, hq, h.l0, h.l1, h.h0, h.h1, h.r0, h.r1, h.td, h.tb, h1, h2, by have := h.m0; show 0 ≤ s.many + 1; omega⟩
theorem ok_press {s : LW} {k : Ky} (h : s.ok) : (pressL s k).1.ok := by
  unfold pressL actL
  cases k with
  | sign c => exact ok_ink h
  | lift c => exact ok_ink h
  | left => exact ok_many (s := (turnL s .left).1) (ok_turn h)
  | right => exact ok_many (s := (turnL s .right).1) (ok_turn h)
  | set => exact ok_many (s := (turnL s .set).1) (ok_turn h)
  | clear => exact ok_many (s := (turnL s .clear).1) (ok_turn h)
  | all => exact ok_many (s := (turnL s .all).1) (ok_turn h)
  | free => exact ok_many (s := (turnL s .free).1) (ok_turn h)
  | ribbon => exact ok_many (s := (turnL s .ribbon).1) (ok_turn h)
  | caps => exact ok_many (s := (turnL s .caps).1) (ok_turn h)
  | blank => exact ok_many (s := (stepL1 s .blank).1) (ok_step h)
  | half => exact ok_many (s := (stepL1 s .half).1) (ok_step h)
  | back => exact ok_many (s := (stepL1 s .back).1) (ok_step h)
  | tab => exact ok_many (s := (stepL1 s .tab).1) (ok_step h)
  | ret => exact ok_many (s := (stepL1 s .ret).1) (ok_step h)
  | up => exact ok_many (s := (stepL1 s .up).1) (ok_step h)
  | down => exact ok_many (s := (stepL1 s .down).1) (ok_step h)
theorem ok_run : ∀ {ks : List Ky} {s : LW}, s.ok → (runL s ks).1.ok
  | [], _, h => h
  | k :: ks, _, h => ok_run (ks := ks) (ok_press h)
end DL
end
section
set_option maxHeartbeats 0
namespace DL
open PySem
def psi_is_whole (A : Ad) : WS := wRet (wAndV (wCallB wIsi (wCons (wVar 0) (wCons (wC (.ty "int")) (wNil)))) (wAndV (wNotV (wCallB wIsi (wCons (wVar 0) (wCons (wC (.ty "bool")) (wNil))))) (wChain wLe wLe (wVar 1) (wVar 0) (wVar 2))))
def psi_is_one_of (A : Ad) : WS := wRet (wAndV (wCallB wIsi (wCons (wVar 0) (wCons (wC (.ty "str")) (wNil)))) (wAndV (wOp wEq (wCallB wLen (wCons (wVar 0) (wNil))) (wC (.int 1))) (wOp wIn (wVar 0) (wVar 1))))
def psi_is_rising (A : Ad) : WS := wRet (wCallB wAll (wCons (wLc false [1, 2] (iZipQ (wVar 0) (wSl (wCut false) (wVar 0) (oSome (wC (.int 1))) (oNone))) (gTp [1, 2]) (wYes) (wOp wLtD (wVar 1) (wVar 2))) (wNil)))
def psi_is_machine (A : Ad) : WS := wSeq (wIfS (wOr (wNot (wTest (wCallB wIsi (wCons (wVar 0) (wCons (wC (.ty "tuple")) (wNil)))))) (wOr (wTest (wOp wNe (wCallB wLen (wCons (wVar 0) (wNil))) (wC (.int 3)))) (wNot (wTest (wCall 3 (ph_is_whole A) (wCons (wOp wIx (wVar 0) (wC (.int 0))) (wCons (wC (.int 8)) (wCons (wC (.int 40)) (wNil))))))))) (wRet (wC (.bl false))) (wNext)) (wSeq (wIfS (wOr (wNot (wTest (wCallB wIsi (wCons (wOp wIx (wVar 0) (wC (.int 1))) (wCons (wC (.ty "tuple")) (wNil)))))) (wNot (wTest (wCallB wAll (wCons (wLc false [1] (iSeq (wOp wIx (wVar 0) (wC (.int 1)))) (gNm 1) (wYes) (wCall 2 (ph_is_one_of A) (wCons (wVar 1) (wCons (wC (.str G_DEAD)) (wNil))))) (wNil)))))) (wRet (wC (.bl false))) (wNext)) (wRet (wAndV (wCall 1 (ph_is_rising A) (wCons (wOp wIx (wVar 0) (wC (.int 1))) (wNil))) (wCall 3 (ph_is_whole A) (wCons (wOp wIx (wVar 0) (wC (.int 2))) (wCons (wC (.int 2)) (wCons (wC (.int 4)) (wNil))))))))
def psi_need_machine (A : Ad) : WS := wIfS (wNot (wTest (wCall 1 (ph_is_machine A) (wCons (wVar 0) (wNil))))) (wRaise A.xNoMachine) (wNext)
def psi_end_of (A : Ad) : WS := wRet (wOp (wMul false) (wC (.int 2)) (wOp wIx (wVar 0) (wC (.int 0))))
def psi_need_margins (A : Ad) : WS := wIfS (wOr (wNot (wTest (wCall 3 (ph_is_whole A) (wCons (wVar 1) (wCons (wC (.int 0)) (wCons (wCall 1 (ph_end_of A) (wCons (wVar 0) (wNil))) (wNil))))))) (wOr (wNot (wTest (wCall 3 (ph_is_whole A) (wCons (wVar 2) (wCons (wC (.int 0)) (wCons (wCall 1 (ph_end_of A) (wCons (wVar 0) (wNil))) (wNil))))))) (wTest (wOp wGe (wVar 1) (wVar 2))))) (wRaise A.xNoPlace) (wNext)
def psi_key_for (A : Ad) : WS := wRet (wTup (wCons (wC (.str (PySem.Str.ofString "sign"))) (wCons (wIf (wTest (wOp wIn (wVar 0) (wC (.str G_GREAT)))) (wOp wIx (wC (.str G_LETTERS)) (wMt "str" wSIndex (wC (.str G_GREAT)) (wCons (wVar 0) (wNil)))) (wVar 0)) (wNil))))
end DL
end
section
set_option maxHeartbeats 0
namespace DL
open PySem
variable {A : Ad} (hA : AdOk A)
include hA
theorem dt_is_whole : ∀ ds m R x, ph_is_whole A ds m R x → psi_is_whole A (startD 3 ds) m (endD R x) := by
  rintro ds m R x ⟨d, lo, hi, rfl, ht, h⟩
  simp [psi_is_whole, wIsi]
  cases d with
  | int i =>
    simp [tyN, isiN, wLe]
    by_cases h1 : lo ≤ i <;> simp [h1, wholeB] at h ⊢ <;> exact h
  | bl b => simp [tyN, isiN, wholeB] at h ⊢; exact h
  | ref a =>
    simp [tyN] at ht ⊢
    cases e : m a with
    | none => simp [e] at ht
    | some o => cases o <;> simp [e, isiN, wholeB] at ht h ⊢ <;> exact h
  | _ => simp [tyN, isiN, wholeB] at ht h ⊢ <;> exact h
theorem dt_is_one_of : ∀ ds m R x, ph_is_one_of A ds m R x → psi_is_one_of A (startD 2 ds) m (endD R x) := by
  rintro ds m R x ⟨d, s, rfl, ht, hl, h⟩
  simp [psi_is_one_of, wIsi]
  cases d with
  | str t =>
    have hl := hl t rfl
    simp [tyN, isiN, wLen, hl, wEq]
    simp only [oneOfB] at h
    obtain ⟨⟨l⟩⟩ := t
    match l, h with
    | [], h => simpa [PySem.Str.length] using h
    | [c], h => simp [PySem.Str.length, wIn, wInB]; simpa using h
    | a :: b :: l, h =>
      have z : ¬ ((l.length : Int) + 1 + 1 = 1) := by omega
      simpa [PySem.Str.length, z] using h
  | ref a =>
    simp [tyN] at ht ⊢
    cases e : m a with
    | none => simp [e] at ht
    | some o => cases o <;> simp [e, isiN, oneOfB] at ht h ⊢ <;> exact h
  | _ => simp [tyN, isiN, oneOfB] at ht h ⊢ <;> exact h
theorem dt_end_of : ∀ ds m R x, ph_end_of A ds m R x → psi_end_of A (startD 1 ds) m (endD R x) := by
  rintro ds m R x ⟨c, dead, dn, rfl, hM, h⟩
  simp [psi_end_of, machD, wIx, asQ, atL, ixL, wMul]
  exact h
omit hA in
theorem pt_oks {p : Pt} (h : p.sign < 128) : dOks [.int p.place, ch p.sign, if p.red = true then wordD "red" else wordD "black"] 7 = true := by
  have h1 := ok_ch p.sign 7 h
  have h2 : dOk (if p.red = true then wordD "red" else wordD "black") 7 = true := by
    cases p.red <;> decide +kernel
  simp only [dOks, h1, h2, Bool.and_true]
  simp [dOk]
omit hA in
theorem pt_alike (a b : Pt) : alikeD (ptD a) (ptD b) = true := by
  unfold ptD
  rw [alikeD_cons, alikeD_cons, alikeD_cons, alikeD_int]
  have h1 : alikeD (ch a.sign) (ch b.sign) = true := alikeD_str _ _
  have h2 : alikeD (if a.red = true then wordD "red" else wordD "black") (if b.red = true then wordD "red" else wordD "black") = true := by
    cases a.red <;> cases b.red <;> exact alikeD_str _ _
  rw [h1, h2]; rfl
omit hA in
theorem pt_lt {a b : Pt} (ha : a.sign < 128) (hb : b.sign < 128) : ltD (ptD a) (ptD b) = ptLt a b := by
  unfold ptD
  have hc : ∀ (x : Bool), dOk (if x = true then wordD "red" else wordD "black") 7 = true := fun x => by cases x <;> decide +kernel
  have hal : alikeD (if a.red = true then wordD "red" else wordD "black") (if b.red = true then wordD "red" else wordD "black") = true := by
    cases a.red <;> cases b.red <;> exact alikeD_str _ _
  rw [ltD_cons (n := 0) (k := 0) (alikeD_int _ _) rfl rfl, ltD_cons (n := 7) (k := 7) (alikeD_str _ _) (ok_ch _ 7 ha) (ok_ch _ 7 hb), ltD_cons (n := 7) (k := 7) hal (hc _) (hc _), ltD_nil, ltD_int]
  have e1 : ltD (ch a.sign) (ch b.sign) = decide (a.sign < b.sign) := by
    show ltD (.str _) (.str _) = _
    rw [ltD_str]
    simp
  have e2 : ltD (if a.red = true then wordD "red" else wordD "black") (if b.red = true then wordD "red" else wordD "black") = (!a.red && b.red) := by
    cases a.red <;> cases b.red <;> (show ltD (.str _) (.str _) = _; rw [ltD_str]; decide +kernel)
  have e3 : eqD (if a.red = true then wordD "red" else wordD "black") (if b.red = true then wordD "red" else wordD "black") = decide (a.red = b.red) := by
    cases a.red <;> cases b.red <;> simp [wordD, eqD]
  have e4 : eqD (ch a.sign) (ch b.sign) = decide (a.sign = b.sign) := by simp [eqD]
  rw [e1, e2, e3, e4]
  simp only [eqD, ptLt]
  by_cases h1 : a.place = b.place
  · by_cases h2 : a.sign = b.sign
    · cases a.red <;> cases b.red <;> simp [h1, h2]
    · simp [h1, h2]
  · simp [h1]
theorem rise_lc {α : Type} (f : α → D) (lt : α → α → Bool) (m : Store) (x0 : Option D) : ∀ (ns : List α) (hw : ∀ a ∈ ns, ∀ b ∈ ns, ∀ R : KD, R (.bl (lt a b)) m → wLtD (f a) (f b) m R) (acc : List D) (K : List D → Store → Prop), acc.length + ns.length ≤ LIM →
    K (acc ++ ((ns.zip ns.tail).map fun p => .bl (lt p.1 p.2))) m → wLcL (fun _ => True) [1, 2] (gTp [1, 2]) wYes (wOp wLtD (wVar 1) (wVar 2)) [x0, none, none] (zipD (ns.map f) (ns.tail.map f)) acc m K := by
  intro ns
  induction ns with
  | nil => intro hw acc K hl h; exact ⟨trivial, by simpa using h⟩
  | cons a ns ih =>
    intro hw acc K hl h
    cases ns with
    | nil => exact ⟨trivial, by simpa using h⟩
    | cons b ns =>
      refine ⟨trivial, ?_⟩
      simp only [List.length_cons] at hl
      simp
      refine hw a (by simp) b (by simp) _ ⟨by omega, ?_⟩
      refine ih (fun a ha b hb => hw a (List.mem_cons_of_mem _ ha) b (List.mem_cons_of_mem _ hb)) _ K (by simp; omega) (by simpa using h)
theorem rise_all {α : Type} (lt : α → α → Bool) : ∀ ns : List α, ((ns.zip ns.tail).map fun p => lt p.1 p.2).all id = rise lt ns
  | [] => rfl
  | [a] => rfl
  | a :: b :: ns => by
    have ih := rise_all lt (b :: ns)
    simp [rise] at ih ⊢
    rw [ih]
theorem dt_is_rising : ∀ ds m R x, ph_is_rising A ds m R x → psi_is_rising A (startD 3 ds) m (endD R x) := by
  rintro ds m R x (⟨ns, rfl, hl, h⟩ | ⟨ns, rfl, hl, h⟩ | ⟨ns, rfl, hl, h128, h⟩)
  · simp [psi_is_rising, wCut, iZipQ]
    have e : cutL (ns.map D.int) (some 1) none = ns.tail.map D.int := by
      cases ns with
      | nil => simp [cutL, sIxD]
      | cons a l => simp [cutL, sIxD]; exact List.take_of_length_le (by simp)
    rw [e]
    refine rise_lc hA D.int (fun a b => decide (a < b)) m _ ns (fun a _ b _ R h => h) [] _ (by simpa using hl) ?_
    refine ⟨(ns.zip ns.tail).map fun p => decide (p.1 < p.2), by simp [asL], ?_⟩
    rw [rise_all hA (fun a b : Int => decide (a < b))]; exact h
  · simp [psi_is_rising, wCut, iZipQ]
    have e : cutL (ns.map ch) (some 1) none = ns.tail.map ch := by
      cases ns with
      | nil => simp [cutL, sIxD]
      | cons a l => simp [cutL, sIxD]; exact List.take_of_length_le (by simp)
    rw [e]
    refine rise_lc hA ch (fun a b => decide (a < b)) m _ ns (fun a _ b _ R h => ?_) [] _ (by simpa using hl) ?_
    · simpa [wLtD] using h
    refine ⟨(ns.zip ns.tail).map fun p => decide (p.1 < p.2), by simp [asL], ?_⟩
    rw [rise_all hA (fun a b : Nat => decide (a < b))]; exact h
  · simp [psi_is_rising, wCut, iZipQ]
    have e : cutL (ns.map ptD) (some 1) none = ns.tail.map ptD := by
      cases ns with
      | nil => simp [cutL, sIxD]
      | cons a l => simp [cutL, sIxD]; exact List.take_of_length_le (by simp)
    rw [e]
    refine rise_lc hA ptD ptLt m _ ns (fun a ha b hb R h => ?_) [] _ (by simpa using hl) ?_
    · refine ⟨⟨pt_oks (h128 a ha), pt_oks (h128 b hb), pt_alike a b⟩, ?_⟩
      rw [← pt_lt (h128 a ha) (h128 b hb)] at h
      exact h
    refine ⟨(ns.zip ns.tail).map fun p => ptLt p.1 p.2, by simp [asL], ?_⟩
    rw [rise_all hA ptLt]; exact h
theorem dead_cs : G_DEAD.cps.toList = [39, 94, 126] := by decide +kernel
omit hA in
theorem dead_is : ∀ {xs : List D}, (∀ d ∈ xs, oneOfB d G_DEAD = true) → ∃ dead : List Nat, xs = dead.map ch ∧ xs.map sgn = dead ∧ ∀ k ∈ dead, k = 39 ∨ k = 94 ∨ k = 126
  | [], _ => ⟨[], rfl, rfl, by simp⟩
  | d :: xs, h => by
    obtain ⟨dead, e1, e2, e3⟩ := dead_is (xs := xs) fun d hd => h d (List.mem_cons_of_mem _ hd)
    have h0 := h d List.mem_cons_self
    match d, h0 with
    | .str ⟨⟨[c]⟩⟩, h0 =>
      have hc : c ∈ G_DEAD.cps.toList := by simpa [oneOfB] using h0
      have hc' : c = 39 ∨ c = 94 ∨ c = 126 := by
        rw [show G_DEAD.cps.toList = [39, 94, 126] by decide +kernel] at hc
        simpa using hc
      refine ⟨c :: dead, by rw [e1]; rfl, by rw [List.map_cons, e2]; rfl, fun k hk => ?_⟩
      rcases List.mem_cons.mp hk with z | z
      · rw [z]; exact hc'
      · exact e3 k z
omit hA in
theorem rise_dead : ∀ {dead : List Nat}, (∀ k ∈ dead, k = 39 ∨ k = 94 ∨ k = 126) → rise (fun a b : Nat => decide (a < b)) dead = true → dead ∈ deads := by
  intro dead h hr
  match dead, h, hr with
  | [], _, _ => decide
  | [a], h, _ =>
    rcases h a (by simp) with e | e | e <;> subst e <;> decide
  | [a, b], h, hr =>
    rcases h a (by simp) with e | e | e <;> rcases h b (by simp) with e2 | e2 | e2 <;> subst e e2 <;> first | decide | (exact absurd hr (by decide))
  | [a, b, c], h, hr =>
    rcases h a (by simp) with e | e | e <;> rcases h b (by simp) with e2 | e2 | e2 <;> rcases h c (by simp) with e3 | e3 | e3 <;> subst e e2 e3 <;> first | decide | (exact absurd hr (by decide))
  | a :: b :: c :: d :: r, h, hr =>
    exfalso
    simp only [rise, Bool.and_eq_true, decide_eq_true_eq] at hr
    have h1 := h a (by simp)
    have h2 := h b (by simp)
    have h3 := h c (by simp)
    have h4 := h d (by simp)
    omega
omit hA in
theorem machB_is {d : D} (h : machB d = true) : ∃ c dead dn, d = machD c dead dn ∧ MOk c dead dn := by
  unfold machB at h
  split at h
  · rename_i a xs b
    simp only [Bool.and_eq_true, List.all_eq_true] at h
    obtain ⟨⟨⟨h1, h3⟩, h4⟩, h5⟩ := h
    obtain ⟨dead, e1, e2, e3⟩ := dead_is h3
    rw [e2] at h4
    cases a <;> simp [wholeB] at h1
    cases b <;> simp [wholeB] at h5
    exact ⟨_, dead, _, by rw [e1]; rfl, h1.1, h1.2, rise_dead e3 h4, h5.1, h5.2⟩
  · cases h
omit hA in
theorem deads_rise {dead : List Nat} (h : dead ∈ deads) : rise (fun a b : Nat => decide (a < b)) dead = true := by
  revert dead; decide
omit hA in
theorem deads_mem {dead : List Nat} (h : dead ∈ deads) : ∀ k ∈ dead, k = 39 ∨ k = 94 ∨ k = 126 := by
  revert dead; decide
omit hA in
theorem sgn_ch (dead : List Nat) : (dead.map ch).map sgn = dead := by
  induction dead with
  | nil => rfl
  | cons a l ih => rw [List.map_cons, List.map_cons, ih]; rfl
omit hA in
theorem mach_is {c : Int} {dead : List Nat} {dn : Int} (h : MOk c dead dn) : machB (machD c dead dn) = true := by
  have e1 := deads_rise h.de
  have e2 : ((dead.map ch).all fun d => oneOfB d G_DEAD) = true := by
    rw [List.all_eq_true]
    intro d hd
    obtain ⟨k, hk, rfl⟩ := List.mem_map.mp hd
    rcases deads_mem h.de k hk with e | e | e <;> subst e <;> decide +kernel
  have e3 : wholeB (.int c) 8 40 = true := by simp [wholeB, h.lo, h.hi]
  have e4 : wholeB (.int dn) 2 4 = true := by simp [wholeB, h.d2, h.d4]
  simp only [machD, machB]
  rw [sgn_ch, e1, e2, e3, e4]; rfl
omit hA in
theorem mach_arg {m : Store} {c : Int} {dead : List Nat} {dn : Int} (h : MOk c dead dn) : arg m (machD c dead dn) := by
  have h1 : ∀ dead ∈ deads, dOks (dead.map ch) 58 = true ∧ szOks (dead.map ch) = true ∧ (dead.map ch).length ≤ LIM := by decide +kernel
  obtain ⟨a1, a2, a3⟩ := h1 dead h.de
  refine .inl ⟨?_, ?_⟩
  · simp only [machD, dOk, dOks, a1]; rfl
  · simp only [machD, szOk, szOks, a2, decide_eq_true a3]; show (decide (3 ≤ LIM) && _) = true; decide
omit hA in
theorem chs_inj : ∀ {a b : List Nat}, a.map ch = b.map ch → a = b
  | [], [], _ => rfl
  | [], _ :: _, h => by simp at h
  | _ :: _, [], h => by simp at h
  | x :: a, y :: b, h => by
    simp only [List.map_cons, List.cons.injEq] at h
    have e : x = y := by simpa using h.1
    rw [e, chs_inj h.2]
omit hA in
theorem machD_inj {c c' : Int} {dead dead' : List Nat} {dn dn' : Int} (h : machD c dead dn = machD c' dead' dn') : c = c' ∧ dead = dead' ∧ dn = dn' := by
  simp only [machD, D.tup.injEq, List.cons.injEq, D.int.injEq, and_true] at h
  exact ⟨h.1, chs_inj h.2.1, h.2.2⟩
omit hA in
theorem inMach.good {m : Store} {x : XD} {c : Int} {dead : List Nat} {dn : Int} {K : Int → List Nat → Int → Prop} (hM : MOk c dead dn) (h : K c dead dn) : inMach A m (machD c dead dn) x K := by
  refine ⟨mach_arg hM, fun z => ?_, fun c' dead' dn' e _ => ?_⟩
  · rw [mach_is hM] at z; cases z
  · obtain ⟨e1, e2, e3⟩ := machD_inj e
    rw [← e1, ← e2, ← e3]; exact h
omit hA in
theorem inMach.no {m : Store} {d : D} {x : XD} {K : Int → List Nat → Int → Prop} (ha : arg m d) (hb : machB d = false) (h : x A.xNoMachine m) : inMach A m d x K := by
  refine ⟨ha, fun _ => h, fun c dead dn e hM => ?_⟩
  rw [e, mach_is hM] at hb; cases hb
theorem dt_is_machine : ∀ ds m R x, ph_is_machine A ds m R x → psi_is_machine A (startD 2 ds) m (endD R x) := by
  rintro ds m R x ⟨d, rfl, ha, h⟩
  have L : LIM = 16777216 := rfl
  obtain ⟨n, hn, ⟨xs, rfl, rfl⟩ | ⟨no, nt⟩⟩ := arg_ty ha
  · obtain ⟨h1, h2⟩ : dOk (.tup xs) 60 = true ∧ szOk (.tup xs) = true := by
      rcases ha with z | ⟨_, _, z, _⟩
      · exact z
      · cases z
    have h3 : xs.length ≤ LIM ∧ szOks xs = true := by simpa [szOk] using h2
    have h4 : dOks xs 59 = true := by simpa [dOk] using h1
    simp [psi_is_machine, wIsi, hn, isiN, wLen, asQ, wNe, wEq]
    by_cases hl : xs.length = 3
    · match xs, hl with
      | [a, b, c], _ =>
        have ta := fun m => dok_ty (m := m) (dok_at h4 (show a ∈ [a, b, c] by simp))
        have tb := dok_at h4 (show b ∈ [a, b, c] by simp)
        have tc := fun m => dok_ty (m := m) (dok_at h4 (show c ∈ [a, b, c] by simp))
        have i0 : ∀ (m : Store) (K : KD), wIx (.tup [a, b, c]) (.int 0) m K = K a m := fun _ K => rfl
        have i1 : ∀ (m : Store) (K : KD), wIx (.tup [a, b, c]) (.int 1) m K = K b m := fun _ K => rfl
        have i2 : ∀ (m : Store) (K : KD), wIx (.tup [a, b, c]) (.int 2) m K = K c m := fun _ K => rfl
        simp [i0, i1, i2]
        refine ⟨a, 8, 40, rfl, ta m, ?_⟩
        cases hw : wholeB a 8 40 with
        | false =>
          have e : machB (.tup [a, b, c]) = false := by
            cases b <;> simp [machB, hw]
          rw [e] at h; simpa using h
        | true =>
          simp
          obtain ⟨nb, hnb⟩ := Option.isSome_iff_exists.mp (dok_ty (m := m) tb)
          simp [i1, hnb]
          cases b with
          | tup ys =>
            have e : nb = "tuple" := by simpa [tyN] using hnb.symm
            subst e
            have sb : szOk (.tup ys) = true := sz_at h3.2 (by simp)
            have sb' : ys.length ≤ LIM ∧ szOks ys = true := by simpa [szOk] using sb
            have tb' : dOks ys 58 = true := by simpa [dOk] using tb
            simp [asI]
            refine lc_each (G := fun _ => True) (fun d => .bl (oneOfB d G_DEAD)) trivial ys [] _ (by simpa using sb'.1) (fun d hd K1 hK => ?_) ?_
            · simp
              refine ⟨d, G_DEAD, rfl, dok_ty (dok_at tb' hd), fun t e => ?_, hK⟩
              have := sz_at sb'.2 hd
              rw [e] at this
              simpa [szOk] using this
            · rw [List.nil_append]
              have e : ys.map (fun d => D.bl (oneOfB d G_DEAD)) = (ys.map fun d => oneOfB d G_DEAD).map .bl := by simp
              refine ⟨ys.map fun d => oneOfB d G_DEAD, by rw [e]; rfl, ?_⟩
              have e3 : (ys.map fun d => oneOfB d G_DEAD).all id = ys.all fun d => oneOfB d G_DEAD := by simp [List.all_map, Function.comp]
              rw [e3]
              cases hb : ys.all fun d => oneOfB d G_DEAD with
              | false =>
                have e : machB (.tup [a, .tup ys, c]) = false := by simp only [machB, hb]; simp
                rw [e] at h; simpa using h
              | true =>
                obtain ⟨dead, e1, e2, e3⟩ := dead_is (List.all_eq_true.mp hb)
                simp [i1]
                refine .inr (.inl ⟨dead, by rw [e1], ?_, ?_⟩)
                · have := sb'.1; rw [e1] at this; simpa using this
                · have em : machB (.tup [a, .tup ys, c]) = (rise (fun a b : Nat => decide (a < b)) dead && wholeB c 2 4) := by
                    simp only [machB, hw, hb, e2]; simp
                  rw [em] at h
                  cases hr : rise (fun a b : Nat => decide (a < b)) dead with
                  | false => rw [hr] at h; simpa using h
                  | true =>
                    rw [hr] at h
                    simp [i2]
                    exact ⟨c, 2, 4, rfl, tc m, by simpa using h⟩
          | _ =>
            have e : ¬ nb = "tuple" := by
              simp [tyN, dOk] at hnb tb
              try (subst hnb; decide)
            simp [e]
            simpa [machB] using h
    · have e : machB (.tup xs) = false := by
        match xs, hl with
        | [], _ => simp [machB]
        | [_], _ => simp [machB]
        | [_, _], _ => simp [machB]
        | [_, _, _], hl => exact absurd rfl hl
        | _ :: _ :: _ :: _ :: _, _ => simp [machB]
      have hl' : ¬ ((xs.length : Int) = 3) := by omega
      rw [e] at h
      simpa [hl'] using h
  · have e : machB d = false := by
      cases d <;> simp [machB]
      exact absurd rfl (no _)
    have e2 : isiN n "tuple" = false := by simp [isiN, nt]
    simp [psi_is_machine, wIsi, hn, e2]
    rw [e] at h
    exact h
theorem dt_need_machine : ∀ ds m R x, ph_need_machine A ds m R x → psi_need_machine A (startD 1 ds) m (endD R x) := by
  rintro ds m R x ⟨d, rfl, ha, hno, hyes⟩
  simp [psi_need_machine]
  refine ⟨d, rfl, ha, ?_⟩
  cases hb : machB d with
  | false => simpa using hno hb
  | true =>
    obtain ⟨c, dead, dn, e, hM⟩ := machB_is hb
    simpa using hyes c dead dn e hM
theorem dt_need_margins : ∀ ds m R x, ph_need_margins A ds m R x → psi_need_margins A (startD 3 ds) m (endD R x) := by
  rintro ds m R x ⟨c, dead, dn, l, r, rfl, hM, hl, hr, h⟩
  simp [psi_need_margins]
  refine ⟨_, _, _, rfl, hM, _, _, _, rfl, hl, ?_⟩
  cases h1 : wholeB l 0 (2 * c) with
  | false => simp [marB, h1] at h ⊢; exact h
  | true =>
    simp
    refine ⟨_, _, _, rfl, hM, _, _, _, rfl, hr, ?_⟩
    cases h2 : wholeB r 0 (2 * c) with
    | false => simp [marB, h1, h2] at h ⊢; exact h
    | true =>
      simp
      cases l <;> simp [wholeB] at h1
      cases r <;> simp [wholeB] at h2
      rename_i a b
      simp [wGe]
      simp only [marB, wholeB] at h
      by_cases h3 : b ≤ a
      · have : ¬ a < b := by omega
        simp [h3]; simpa [h1, h2, this] using h
      · have : a < b := by omega
        simp [h3]; simpa [h1, h2, this] using h
theorem great_cs : G_GREAT.cps.toList = List.range' 65 26 := by decide +kernel
theorem letters_cs : G_LETTERS.cps.toList = List.range' 97 26 := by decide +kernel
theorem dt_key_for : ∀ ds m R x, ph_key_for A ds m R x → psi_key_for A (startD 1 ds) m (endD R x) := by
  rintro ds m R x ⟨c, rfl, h⟩
  simp [psi_key_for, wIn, wInB]
  have hg : (c ∈ G_GREAT.cps.toList) ↔ 65 ≤ c ∧ c < 91 := by
    rw [great_cs hA, List.mem_range'_1]
  by_cases hc : 65 ≤ c ∧ c < 91
  · have hg' : c ∈ G_GREAT.cps.toList := hg.mpr hc
    simp [Array.mem_toList_iff] at hg'
    simp [hg', tyM, wSIndex]
    refine ⟨c - 65, ?_, fun j hj => ?_, ?_⟩
    · have e : G_GREAT.cps.toList[c - 65]? = some c := by
        rw [great_cs hA, List.getElem?_range' (by omega)]; simp; omega
      simpa using e
    · have e : G_GREAT.cps.toList[j]? = some (65 + j) := by
        rw [great_cs hA, List.getElem?_range' (by omega)]; simp
      have e' : G_GREAT.cps[j]? = some (65 + j) := by simpa using e
      rw [e']; intro z; cases z; omega
    · have e : atL G_LETTERS.cps.toList ((c - 65 : Nat) : Int) = some (c + 32) := by
        have hlen : G_LETTERS.cps.toList.length = 26 := by rw [letters_cs hA]; simp
        unfold atL
        rw [hlen, ixA]
        have : c - 65 < 26 := by omega
        simp only [this, if_true, Option.bind]
        rw [letters_cs hA, List.getElem?_range' (by omega)]
        congr 1
        omega
      simp only [wIx]
      have hl : G_LETTERS.length ≤ LIM := by decide +kernel
      refine ⟨hl, ?_⟩
      rw [e]
      simp
      refine ⟨by decide, ?_⟩
      have e2 : loC c = c + 32 := by unfold loC; rw [if_pos (by omega)]
      simpa [kS, wordD, e2] using h
  · have hg' : ¬ c ∈ G_GREAT.cps.toList := fun z => hc (hg.mp z)
    simp [Array.mem_toList_iff] at hg'
    simp [hg']
    refine ⟨by decide, ?_⟩
    have e2 : loC c = c := by unfold loC; rw [if_neg (by omega)]
    simpa [kS, wordD, e2] using h
end DL
end
section
set_option maxHeartbeats 0
namespace DL
open PySem
def psi_is_key (A : Ad) : WS := wSeq (wIfS (wOr (wNot (wTest (wCallB wIsi (wCons (wVar 0) (wCons (wC (.ty "tuple")) (wNil)))))) (wOr (wTest (wOp wEq (wVar 0) (wTup (wNil)))) (wNot (wTest (wCallB wIsi (wCons (wOp wIx (wVar 0) (wC (.int 0))) (wCons (wC (.ty "str")) (wNil)))))))) (wRet (wC (.bl false))) (wNext)) (wSeq (wIfS (wTest (wOp wIn (wOp wIx (wVar 0) (wC (.int 0))) (wTup (wCons (wC (.str (PySem.Str.ofString "sign"))) (wCons (wC (.str (PySem.Str.ofString "lift"))) (wNil)))))) (wRet (wAndV (wOp wEq (wCallB wLen (wCons (wVar 0) (wNil))) (wC (.int 2))) (wCall 2 (ph_is_one_of A) (wCons (wOp wIx (wVar 0) (wC (.int 1))) (wCons (wC (.str G_SIGNS)) (wNil)))))) (wNext)) (wRet (wAndV (wOp wEq (wCallB wLen (wCons (wVar 0) (wNil))) (wC (.int 1))) (wOp wIn (wOp wIx (wVar 0) (wC (.int 0))) (wOp (wAdd false) (wC (.tup G_MOVES)) (wC (.tup G_TURNS)))))))
def psi_need_keys (A : Ad) : WS := wIfS (wOr (wNot (wTest (wCallB wIsi (wCons (wVar 0) (wCons (wC (.ty "tuple")) (wNil)))))) (wOr (wTest (wOp wGt (wCallB wLen (wCons (wVar 0) (wNil))) (wC (.int 4000)))) (wNot (wTest (wCallB wAll (wCons (wLc false [1] (iSeq (wVar 0)) (gNm 1) (wYes) (wCall 1 (ph_is_key A) (wCons (wVar 1) (wNil)))) (wNil))))))) (wRaise A.xNoKeys) (wNext)
def psi_need_both (A : Ad) : WS := wSeq (wExp (wCall 1 (ph_need_machine A) (wCons (wVar 0) (wNil)))) (wExp (wCall 1 (ph_need_keys A) (wCons (wVar 1) (wNil))))
def psi_pressed (A : Ad) : WS := wSeq (wExp (wCall 2 (ph_need_both A) (wCons (wVar 0) (wCons (wVar 1) (wNil))))) (wRet (wFgt (wOp wIx (wCall 3 (ph_worked A) (wCons (wVar 0) (wCons (wTup (wNil)) (wCons (wVar 1) (wNil))))) (wC (.int 1)))))
def psi_state (A : Ad) : WS := wSeq (wExp (wCall 2 (ph_need_both A) (wCons (wVar 0) (wCons (wVar 1) (wNil))))) (wRet (wFgt (wOwn1 A.cMachine "stand" 1 (ph_Machine_stand A) (wOp wIx (wCall 3 (ph_worked A) (wCons (wVar 0) (wCons (wTup (wNil)) (wCons (wVar 1) (wNil))))) (wC (.int 0))) (wNil))))
def psi_rung (A : Ad) : WS := wSeq (wExp (wCall 2 (ph_need_both A) (wCons (wVar 0) (wCons (wVar 1) (wNil))))) (wRet (wFgt (wFrz (wFld A.cMachine "rings" (wOp wIx (wCall 3 (ph_worked A) (wCons (wVar 0) (wCons (wTup (wNil)) (wCons (wVar 1) (wNil))))) (wC (.int 0)))))))
end DL
end
section
set_option maxHeartbeats 0
namespace DL
open PySem
section
variable {A : Ad} {m : Store} {p ta ma ra : Addr} {s : LW} (hp : m p = some (.ins A.cMachine (maD s ta ma ra))) (R : KD)
include hp
theorem gf_of {n : Str} {v : D} (hk : lookD (maD s ta ma ra) n = some v) : fldP A.cMachine m p n R = R v m := by
  apply propext
  constructor
  · rintro ⟨fs, d, e, h1, h2⟩
    rw [hp] at e
    cases e
    rw [hk] at h1
    cases h1
    exact h2
  · exact fun h => ⟨_, v, hp, hk, h⟩
theorem sf_of {n : Str} {y : D} {K : Store → Prop} {fs : List (Str × D)} (hk : putD n y (maD s ta ma ra) = fs) : fldS A.cMachine m p n y K = K (sup m p (.ins A.cMachine fs)) := by
  subst hk
  apply propext
  constructor
  · rintro ⟨fs, e, h1, h2⟩
    rw [hp] at e
    cases e
    exact h2
  · exact fun h => ⟨_, hp, by show 14 < 1000; decide, h⟩
theorem ow_of {n : Str} {K : Prop} (hk : lookD (maD s ta ma ra) n = none) : ownP A.cMachine m p n K = K := by
  apply propext
  constructor
  · rintro ⟨fs, e, h1, h2⟩; exact h2
  · exact fun h => ⟨_, hp, hk, h⟩
theorem gf_dead : fldP A.cMachine m p "dead" R = R (.tup (s.dead.map ch)) m := gf_of hp R (by simp [maD, lookD])
theorem gf_down : fldP A.cMachine m p "down" R = R (.int s.dn) m := gf_of hp R (by simp [maD, lookD])
theorem gf_end : fldP A.cMachine m p "end" R = R (.int (2 * s.c)) m := gf_of hp R (by simp [maD, lookD])
theorem gf_row : fldP A.cMachine m p "row" R = R (.int s.row) m := gf_of hp R (by simp [maD, lookD])
theorem gf_place : fldP A.cMachine m p "place" R = R (.int s.place) m := gf_of hp R (by simp [maD, lookD])
theorem gf_low : fldP A.cMachine m p "low" R = R (.int s.low) m := gf_of hp R (by simp [maD, lookD])
theorem gf_high : fldP A.cMachine m p "high" R = R (.int s.high) m := gf_of hp R (by simp [maD, lookD])
theorem gf_tabs : fldP A.cMachine m p "tabs" R = R (.ref ta) m := gf_of hp R (by simp [maD, lookD])
theorem gf_colour : fldP A.cMachine m p "colour" R = R (colD s.red) m := gf_of hp R (by simp [maD, lookD])
theorem gf_caps : fldP A.cMachine m p "caps" R = R (.bl s.caps) m := gf_of hp R (by simp [maD, lookD])
theorem gf_is_free : fldP A.cMachine m p "is_free" R = R (.bl s.free) m := gf_of hp R (by simp [maD, lookD])
theorem gf_marks : fldP A.cMachine m p "marks" R = R (.ref ma) m := gf_of hp R (by simp [maD, lookD])
theorem gf_rings : fldP A.cMachine m p "rings" R = R (.ref ra) m := gf_of hp R (by simp [maD, lookD])
theorem gf_many : fldP A.cMachine m p "many" R = R (.int s.many) m := gf_of hp R (by simp [maD, lookD])
theorem sf_row (v : Int) (K : Store → Prop) : fldS A.cMachine m p "row" (.int v) K = K (sup m p (.ins A.cMachine (maD { s with row := v } ta ma ra))) := sf_of hp (by simp [maD, putD])
theorem sf_place (v : Int) (K : Store → Prop) : fldS A.cMachine m p "place" (.int v) K = K (sup m p (.ins A.cMachine (maD { s with place := v } ta ma ra))) := sf_of hp (by simp [maD, putD])
theorem sf_low (v : Int) (K : Store → Prop) : fldS A.cMachine m p "low" (.int v) K = K (sup m p (.ins A.cMachine (maD { s with low := v } ta ma ra))) := sf_of hp (by simp [maD, putD])
theorem sf_high (v : Int) (K : Store → Prop) : fldS A.cMachine m p "high" (.int v) K = K (sup m p (.ins A.cMachine (maD { s with high := v } ta ma ra))) := sf_of hp (by simp [maD, putD])
theorem sf_many (v : Int) (K : Store → Prop) : fldS A.cMachine m p "many" (.int v) K = K (sup m p (.ins A.cMachine (maD { s with many := v } ta ma ra))) := sf_of hp (by simp [maD, putD])
theorem sf_caps (v : Bool) (K : Store → Prop) : fldS A.cMachine m p "caps" (.bl v) K = K (sup m p (.ins A.cMachine (maD { s with caps := v } ta ma ra))) := sf_of hp (by simp [maD, putD])
theorem sf_is_free (v : Bool) (K : Store → Prop) : fldS A.cMachine m p "is_free" (.bl v) K = K (sup m p (.ins A.cMachine (maD { s with free := v } ta ma ra))) := sf_of hp (by simp [maD, putD])
theorem sf_colour (v : Bool) (K : Store → Prop) : fldS A.cMachine m p "colour" (colD v) K = K (sup m p (.ins A.cMachine (maD { s with red := v } ta ma ra))) := sf_of hp (by simp [maD, putD])
theorem sf_tabs (a : Addr) (ts : List Int) (K : Store → Prop) : fldS A.cMachine m p "tabs" (.ref a) K = K (sup m p (.ins A.cMachine (maD { s with tabs := ts } a ma ra))) := sf_of hp (by simp [maD, putD])
theorem ow_is_locked {K : Prop} : ownP A.cMachine m p "is_locked" K = K := ow_of hp (by simp [maD, lookD])
theorem ow_go_on {K : Prop} : ownP A.cMachine m p "go_on" K = K := ow_of hp (by simp [maD, lookD])
theorem ow_strike {K : Prop} : ownP A.cMachine m p "strike" K = K := ow_of hp (by simp [maD, lookD])
theorem ow_lift {K : Prop} : ownP A.cMachine m p "lift" K = K := ow_of hp (by simp [maD, lookD])
theorem ow_move {K : Prop} : ownP A.cMachine m p "move" K = K := ow_of hp (by simp [maD, lookD])
theorem ow_roll {K : Prop} : ownP A.cMachine m p "roll" K = K := ow_of hp (by simp [maD, lookD])
theorem ow_set_up {K : Prop} : ownP A.cMachine m p "set_up" K = K := ow_of hp (by simp [maD, lookD])
theorem ow_press {K : Prop} : ownP A.cMachine m p "press" K = K := ow_of hp (by simp [maD, lookD])
theorem ow_stand {K : Prop} : ownP A.cMachine m p "stand" K = K := ow_of hp (by simp [maD, lookD])
end
section
variable {A : Ad} {m0 m : Store} {p ta ma ra : Addr} {s : LW}
theorem MaAt.pt (W : MaAt A m0 p m s ta ma ra) : p ≠ ta := by intro e; have := W.hp; rw [e, W.ht] at this; cases this
theorem MaAt.pm (W : MaAt A m0 p m s ta ma ra) : p ≠ ma := by intro e; have := W.hp; rw [e, W.hm] at this; cases this
theorem MaAt.pr (W : MaAt A m0 p m s ta ma ra) : p ≠ ra := by intro e; have := W.hp; rw [e, W.hr] at this; cases this
theorem sub_sup {a : Addr} {o : MO} (h : Sub m0 m) (n : m0 a = none) : Sub m0 (sup m a o) := fun b u e => by
  rw [sup_ne (ne_sto e n)]; exact h b u e
theorem MaAt.put (W : MaAt A m0 p m s ta ma ra) {s' : LW} (h1 : s'.tabs = s.tabs) (h2 : s'.marks = s.marks) (h3 : s'.rings = s.rings) : MaAt A m0 p (sup m p (.ins A.cMachine (maD s' ta ma ra))) s' ta ma ra :=
  ⟨sub_sup W.sub W.np, W.np, W.nt, W.nm, W.nr, sup_same, by rw [sup_ne W.pt.symm, h1]; exact W.ht, by rw [sup_ne W.pm.symm, h2]; exact W.hm, by rw [sup_ne W.pr.symm, h3]; exact W.hr, W.tm, W.tr, W.mr⟩
theorem MaAt.rings (W : MaAt A m0 p m s ta ma ra) (r : List Int) : MaAt A m0 p (sup m ra (.lst (r.map .int))) { s with rings := r } ta ma ra :=
  ⟨sub_sup W.sub W.nr, W.np, W.nt, W.nm, W.nr, by rw [sup_ne W.pr]; exact W.hp, by rw [sup_ne W.tr]; exact W.ht, by rw [sup_ne W.mr]; exact W.hm, sup_same, W.tm, W.tr, W.mr⟩
theorem MaAt.marks (W : MaAt A m0 p m s ta ma ra) (r : List Mk) : MaAt A m0 p (sup m ma (.lst (r.map mkD))) { s with marks := r } ta ma ra :=
  ⟨sub_sup W.sub W.nm, W.np, W.nt, W.nm, W.nr, by rw [sup_ne W.pm]; exact W.hp, by rw [sup_ne W.tm]; exact W.ht, sup_same, by rw [sup_ne W.mr.symm]; exact W.hr, W.tm, W.tr, W.mr⟩
theorem sub_none {a : Addr} (h : Sub m0 m) (n : m a = none) : m0 a = none := by
  cases e : m0 a with
  | none => rfl
  | some o => rw [h a o e] at n; cases n
theorem MaAt.newtabs (W : MaAt A m0 p m s ta ma ra) {a : Addr} (na : m a = none) (r : List Int) : MaAt A m0 p (sup (sup m a (.lst ((tabsS r).map .int))) p (.ins A.cMachine (maD { s with tabs := r } a ma ra))) { s with tabs := r } a ma ra := by
  have ap : a ≠ p := fun e => by rw [e, W.hp] at na; cases na
  have am : a ≠ ma := fun e => by rw [e, W.hm] at na; cases na
  have ar : a ≠ ra := fun e => by rw [e, W.hr] at na; cases na
  have n0 := sub_none W.sub na
  exact ⟨sub_sup (sub_sup W.sub n0) W.np, W.np, n0, W.nm, W.nr, sup_same, by rw [sup_ne ap]; exact sup_same, by rw [sup_ne W.pm.symm, sup_ne am.symm]; exact W.hm, by rw [sup_ne W.pr.symm, sup_ne ar.symm]; exact W.hr, am, ar, W.mr⟩
theorem MaAt.oldtabs (W : MaAt A m0 p m s ta ma ra) (r : List Int) : MaAt A m0 p (sup m ta (.lst ((tabsS r).map .int))) { s with tabs := r } ta ma ra :=
  ⟨sub_sup W.sub W.nt, W.np, W.nt, W.nm, W.nr, by rw [sup_ne W.pt]; exact W.hp, sup_same, by rw [sup_ne W.tm.symm]; exact W.hm, by rw [sup_ne W.tr.symm]; exact W.hr, W.tm, W.tr, W.mr⟩
end
end DL
end
section
set_option maxHeartbeats 0
namespace DL
open PySem
theorem signs_len : G_SIGNS.length ≤ LIM := by decide +kernel
variable {A : Ad} (hA : AdOk A)
include hA
theorem dt_is_key : ∀ ds m R x, ph_is_key A ds m R x → psi_is_key A (startD 1 ds) m (endD R x) := by
  rintro ds m R x ⟨d, rfl, ha, h⟩
  have L : LIM = 16777216 := rfl
  obtain ⟨n, hn, ⟨xs, rfl, rfl⟩ | ⟨no, nt⟩⟩ := arg_ty ha
  · obtain ⟨h1, h2⟩ : dOk (.tup xs) 60 = true ∧ szOk (.tup xs) = true := by
      rcases ha with z | ⟨_, _, z, _⟩
      · exact z
      · cases z
    have h3 : xs.length ≤ LIM ∧ szOks xs = true := by simpa [szOk] using h2
    have h4 : dOks xs 59 = true := by simpa [dOk] using h1
    simp [psi_is_key, wIsi, hn, isiN]
    have weq : ∀ K : KD, K (.bl (decide (xs = []))) m → wEq (.tup xs) (.tup []) m K := by
      intro K hK
      refine ⟨h1, rfl, ?_⟩
      simp only [rv]
      cases xs with
      | nil => simpa [eqD, eqDs] using hK
      | cons a b => simpa [eqD, eqDs] using hK
    refine weq _ ?_
    cases xs with
    | nil => simp [isKeyB] at h ⊢; exact h
    | cons a rest =>
      simp
      have i0 : ∀ K : KD, wIx (.tup (a :: rest)) (.int 0) m K = K a m := fun K => by
        simp only [wIx, asQ, ok_some]
        have := atL_nat (a :: rest) 0
        simp only [Int.natCast_zero] at this
        rw [this]; rfl
      have ta : (tyN m a).isSome = true := dok_ty (dok_at h4 List.mem_cons_self)
      have sa : szOk a = true := sz_at h3.2 List.mem_cons_self
      simp [i0]
      obtain ⟨na, hna⟩ := Option.isSome_iff_exists.mp ta
      simp [hna]
      by_cases hs : na = "str"
      · subst hs
        obtain ⟨w, rfl⟩ : ∃ w, a = .str w := by
          have := dok_at h4 (List.mem_cons_self (a := a) (l := rest))
          cases a <;> simp [tyN, dOk] at hna this ⊢
        simp [isiN, i0]
        refine ⟨by decide, rfl, rfl, ?_⟩
        have e1 : inD (.str w) [.str (PySem.Str.ofString "sign"), .str (PySem.Str.ofString "lift")] = decide (w = PySem.Str.ofString "sign" ∨ w = PySem.Str.ofString "lift") := by
          simp [inD, eqD, eq_comm]
        rw [e1]
        by_cases hw : w = PySem.Str.ofString "sign" ∨ w = PySem.Str.ofString "lift"
        · simp only [isKeyB, if_pos hw] at h
          simp [hw, wLen, asQ, wEq]
          match rest, h with
          | [], h => simpa using h
          | [y], h =>
            simp
            have i1 : ∀ K : KD, wIx (.tup [.str w, y]) (.int 1) m K = K y m := fun K => rfl
            rw [i1]
            have hy : y ∈ [D.str w, y] := by simp
            refine ⟨y, G_SIGNS, rfl, dok_ty (dok_at h4 hy), fun t e => ?_, h⟩
            have := sz_at h3.2 hy
            rw [e] at this
            simpa [szOk] using this
          | y :: z :: l, h =>
            have : ¬ ((l.length : Int) + 1 + 1 + 1 = 2) := by omega
            simpa [this] using h
        · simp only [isKeyB, if_neg hw] at h
          simp [hw, wLen, asQ, wEq]
          match rest, h with
          | [], h =>
            simp [i0, wAdd]
            refine ⟨by decide, rfl, by decide, ?_⟩
            have e2 : inD (.str w) (G_MOVES ++ G_TURNS) = decide (w ∈ keyWords.map PySem.Str.ofString) := by
              have : G_MOVES ++ G_TURNS = (keyWords.map PySem.Str.ofString).map D.str := rfl
              rw [this]
              simp only [inD, List.any_map, Function.comp]
              rw [Bool.eq_iff_iff]
              simp [eqD]
            rw [e2]
            exact h
          | y :: l, h =>
            have : ¬ ((l.length : Int) + 1 + 1 = 1) := by omega
            simpa [this] using h
      · have : isiN na "str" = false := by
          simp [isiN, hs]
        rw [if_neg hs]
        have e : isKeyB (.tup (a :: rest)) = false := by
          cases a <;> simp [isKeyB]
          simp [tyN] at hna; exact absurd hna.symm hs
        rw [e] at h
        exact h
  · have e : isKeyB d = false := by
      cases d <;> simp [isKeyB]
      exact absurd rfl (no _)
    have e2 : isiN n "tuple" = false := by simp [isiN, nt]
    simp [psi_is_key, wIsi, hn, e2]
    rw [e] at h
    exact h
omit hA in
theorem kyG_lt {c : Nat} (h : c ∈ G_SIGNS.cps.toList) : c < 128 := by revert c; decide +kernel
omit hA in
theorem kyG_ok {k : Ky} (h : kyG k) : kyOk k := by
  cases k with
  | sign c => exact kyG_lt h
  | lift c => exact kyG_lt h
  | _ => trivial
omit hA in
theorem okS_words : ∀ k : Ky, okS (PySem.Str.ofString (kyW k)) = true ∧ (PySem.Str.ofString (kyW k)).length ≤ 10
  | .sign c => by show okS (PySem.Str.ofString "sign") = true ∧ (PySem.Str.ofString "sign").length ≤ 10; decide +kernel
  | .lift c => by show okS (PySem.Str.ofString "lift") = true ∧ (PySem.Str.ofString "lift").length ≤ 10; decide +kernel
  | .blank | .half | .back | .tab | .ret | .up | .down | .left | .right | .set | .clear | .all | .free | .ribbon | .caps => by decide +kernel
omit hA in
theorem ky_ok {k : Ky} (h : kyOk k) (n : Nat) : dOk (kyD k) (n + 1) = true := by
  obtain ⟨h1, h2⟩ := okS_words k
  cases k with
  | sign c => simp only [kyD]; rw [dOk, dOks, dOks, dOks, ok_ch c n h, ok_word "sign" n h1]; rfl
  | lift c => simp only [kyD]; rw [dOk, dOks, dOks, dOks, ok_ch c n h, ok_word "lift" n h1]; rfl
  | _ => simp only [kyD, k1]; rw [dOk, dOks, dOks, ok_word _ n h1]; rfl
omit hA in
theorem ky_sz (k : Ky) : szOk (kyD k) = true := by
  obtain ⟨h1, h2⟩ := okS_words k
  have L : LIM = 16777216 := rfl
  have h3 : (PySem.Str.ofString (kyW k)).length ≤ LIM := by omega
  have h4 : ∀ c : Nat, (⟨#[c]⟩ : Str).length ≤ LIM := fun c => by show 1 ≤ LIM; decide
  cases k with
  | sign c => simp only [kyW] at h3; simp [kyD, szOk, szOks, wordD, h3, h4]; decide
  | lift c => simp only [kyW] at h3; simp [kyD, szOk, szOks, wordD, h3, h4]; decide
  | _ => simp only [kyW] at h3; simp [kyD, k1, kyW, szOk, szOks, wordD, h3]; decide
omit hA in
theorem ky_key {k : Ky} (h : kyG k) : isKeyB (kyD k) = true := by
  cases k with
  | sign c => simp [kyD, isKeyB, wordD, oneOfB]; exact Array.mem_toList_iff.mp h
  | lift c => simp [kyD, isKeyB, wordD, oneOfB]; exact Array.mem_toList_iff.mp h
  | _ => simp [kyD, k1, kyW, isKeyB, wordD, keyWords]
omit hA in
theorem keys_arg {m : Store} {ks : List Ky} (h : ∀ k ∈ ks, kyOk k) (hl : ks.length ≤ LIM) : arg m (.tup (ks.map kyD)) := by
  refine .inl ⟨?_, ?_⟩
  · rw [dOk]
    exact doks_all fun d hd => by obtain ⟨k, hk, rfl⟩ := List.mem_map.mp hd; exact ky_ok (h k hk) 58
  · have : szOks (ks.map kyD) = true := szs_all fun d hd => by obtain ⟨k, hk, rfl⟩ := List.mem_map.mp hd; exact ky_sz k
    simp [szOk, this, hl]
omit hA in
theorem keys_keysB {ks : List Ky} (h : ∀ k ∈ ks, kyG k) (hl : ks.length ≤ 4000) : keysB (.tup (ks.map kyD)) = true := by
  simp [keysB, hl]
  exact fun k hk => ky_key (h k hk)
omit hA in
theorem isKey_is {d : D} (h : isKeyB d = true) : ∃ k, d = kyD k ∧ kyG k := by
  match d, h with
  | .tup (.str w :: rest), h =>
    simp only [isKeyB] at h
    split at h
    · rename_i hw
      match rest, h with
      | [y], h =>
        match y, h with
        | .str ⟨⟨[c]⟩⟩, h =>
          have hc : c ∈ G_SIGNS.cps.toList := by simpa [oneOfB] using h
          rcases hw with e | e
          · exact ⟨.sign c, by rw [e]; rfl, hc⟩
          · exact ⟨.lift c, by rw [e]; rfl, hc⟩
    · match rest, h with
      | [], h =>
        have hw : w ∈ keyWords.map PySem.Str.ofString := by simpa using h
        simp only [keyWords, List.map_cons, List.map_nil, List.mem_cons, List.mem_nil_iff, or_false] at hw
        rcases hw with e | e | e | e | e | e | e | e | e | e | e | e | e | e | e
        · exact ⟨.blank, by rw [e]; rfl, trivial⟩
        · exact ⟨.half, by rw [e]; rfl, trivial⟩
        · exact ⟨.back, by rw [e]; rfl, trivial⟩
        · exact ⟨.tab, by rw [e]; rfl, trivial⟩
        · exact ⟨.ret, by rw [e]; rfl, trivial⟩
        · exact ⟨.up, by rw [e]; rfl, trivial⟩
        · exact ⟨.down, by rw [e]; rfl, trivial⟩
        · exact ⟨.left, by rw [e]; rfl, trivial⟩
        · exact ⟨.right, by rw [e]; rfl, trivial⟩
        · exact ⟨.set, by rw [e]; rfl, trivial⟩
        · exact ⟨.clear, by rw [e]; rfl, trivial⟩
        · exact ⟨.all, by rw [e]; rfl, trivial⟩
        · exact ⟨.free, by rw [e]; rfl, trivial⟩
        · exact ⟨.ribbon, by rw [e]; rfl, trivial⟩
        · exact ⟨.caps, by rw [e]; rfl, trivial⟩
omit hA in
theorem keysB_is {d : D} (h : keysB d = true) : ∃ ks : List Ky, d = .tup (ks.map kyD) ∧ (∀ k ∈ ks, kyG k) ∧ ks.length ≤ 4000 := by
  match d, h with
  | .tup xs, h =>
    simp only [keysB, Bool.and_eq_true, decide_eq_true_eq, List.all_eq_true] at h
    obtain ⟨hl, h⟩ := h
    have : ∀ xs : List D, (∀ x ∈ xs, isKeyB x = true) → ∃ ks : List Ky, xs = ks.map kyD ∧ ∀ k ∈ ks, kyG k := by
      intro xs
      induction xs with
      | nil => exact fun _ => ⟨[], rfl, by simp⟩
      | cons a l ih =>
        intro h
        obtain ⟨k, e, hk⟩ := isKey_is (h a List.mem_cons_self)
        obtain ⟨ks, e2, hks⟩ := ih fun x hx => h x (List.mem_cons_of_mem _ hx)
        refine ⟨k :: ks, by rw [e, e2]; rfl, fun z hz => ?_⟩
        rcases List.mem_cons.mp hz with y | y
        · rw [y]; exact hk
        · exact hks z y
    obtain ⟨ks, e, hk⟩ := this xs h
    subst e
    exact ⟨ks, rfl, hk, by simpa using hl⟩
omit hA in
theorem kyD_inj {a b : Ky} (h : kyD a = kyD b) : a = b := by
  cases a <;> cases b <;> simp [kyD, k1, kyW, wordD] at h ⊢ <;> exact h
omit hA in
theorem kyDs_inj : ∀ {a b : List Ky}, a.map kyD = b.map kyD → a = b
  | [], [], _ => rfl
  | [], _ :: _, h => by simp at h
  | _ :: _, [], h => by simp at h
  | x :: a, y :: b, h => by
    simp only [List.map_cons, List.cons.injEq] at h
    rw [kyD_inj h.1, kyDs_inj h.2]
omit hA in
theorem inKeys.good {m : Store} {x : XD} {ks : List Ky} {K : List Ky → Prop} (hk : ∀ k ∈ ks, kyG k) (hl : ks.length ≤ 4000) (h : K ks) : inKeys A m (.tup (ks.map kyD)) x K := by
  have L : LIM = 16777216 := rfl
  refine ⟨keys_arg (fun k hk' => kyG_ok (hk k hk')) (by omega), fun z => ?_, fun ks' e _ _ => ?_⟩
  · rw [keys_keysB hk hl] at z; cases z
  · have e' : ks.map kyD = ks'.map kyD := by injection e
    rw [← kyDs_inj e']; exact h
omit hA in
theorem inKeys.no {m : Store} {d : D} {x : XD} {K : List Ky → Prop} (ha : arg m d) (hb : keysB d = false) (h : x A.xNoKeys m) : inKeys A m d x K := by
  refine ⟨ha, fun _ => h, fun ks e hk hl => ?_⟩
  rw [e, keys_keysB hk hl] at hb; cases hb
omit hA in
theorem inBoth.good {m : Store} {x : XD} {c : Int} {dead : List Nat} {dn : Int} {ks : List Ky} {K : Int → List Nat → Int → List Ky → Prop} (hM : MOk c dead dn) (hk : ∀ k ∈ ks, kyG k) (hl : ks.length ≤ 4000) (h : K c dead dn ks) : inBoth A m (machD c dead dn) (.tup (ks.map kyD)) x K := inMach.good hM (inKeys.good hk hl h)
omit hA in
theorem inBoth.imp {m : Store} {dm dk : D} {x : XD} {K K' : Int → List Nat → Int → List Ky → Prop} (h : inBoth A m dm dk x K) (f : ∀ c dead dn ks, dm = machD c dead dn → MOk c dead dn → dk = .tup (ks.map kyD) → (∀ k ∈ ks, kyG k) → ks.length ≤ 4000 → K c dead dn ks → K' c dead dn ks) : inBoth A m dm dk x K' :=
  inMach.imp h fun c dead dn e hM h => h.imp fun ks e2 hk hl h => f c dead dn ks e hM e2 hk hl h
theorem dt_need_keys : ∀ ds m R x, ph_need_keys A ds m R x → psi_need_keys A (startD 2 ds) m (endD R x) := by
  rintro ds m R x ⟨d, rfl, ha, hno, hyes⟩
  have h : if keysB d = true then R .non m else x A.xNoKeys m := by
    cases hb : keysB d with
    | false => simpa using hno hb
    | true =>
      obtain ⟨ks, e, hk, hl⟩ := keysB_is hb
      simpa using hyes ks e hk hl
  have L : LIM = 16777216 := rfl
  obtain ⟨n, hn, ⟨xs, rfl, rfl⟩ | ⟨no, nt⟩⟩ := arg_ty ha
  · obtain ⟨h1, h2⟩ : dOk (.tup xs) 60 = true ∧ szOk (.tup xs) = true := by
      rcases ha with z | ⟨_, _, z, _⟩
      · exact z
      · cases z
    have h3 : xs.length ≤ LIM ∧ szOks xs = true := by simpa [szOk] using h2
    have h4 : dOks xs 59 = true := by simpa [dOk] using h1
    simp [psi_need_keys, wIsi, hn, isiN, wLen, asQ, wGt]
    by_cases hl : xs.length ≤ 4000
    · have hl' : ¬ (4000 : Int) < (xs.length : Int) := by omega
      simp [hl', asI]
      refine lc_each (G := fun _ => True) (fun d => .bl (isKeyB d)) trivial xs [] _ (by simpa using h3.1) (fun d hd K1 hK => ?_) ?_
      · simp
        exact ⟨d, rfl, .inl ⟨dok_up d 59 (dok_at h4 hd), sz_at h3.2 hd⟩, hK⟩
      · rw [List.nil_append]
        have e : xs.map (fun d => D.bl (isKeyB d)) = (xs.map isKeyB).map .bl := by simp
        refine ⟨xs.map isKeyB, by rw [e]; rfl, ?_⟩
        have e2 : keysB (.tup xs) = xs.all isKeyB := by simp [keysB, hl]
        have e3 : (xs.map isKeyB).all id = xs.all isKeyB := by simp [List.all_map, Function.comp]
        rw [e2] at h
        rw [e3]
        cases hb : xs.all isKeyB <;> simp [hb] at h ⊢ <;> exact h
    · have hl' : (4000 : Int) < (xs.length : Int) := by omega
      have e2 : keysB (.tup xs) = false := by simp [keysB, hl]
      simp [hl', e2] at h ⊢
      exact h
  · have e : keysB d = false := by
      cases d <;> simp [keysB]
      exact absurd rfl (no _)
    have e2 : isiN n "tuple" = false := by simp [isiN, nt]
    simp [psi_need_keys, wIsi, hn, e2]
    simp [e] at h
    exact h
theorem dt_need_both : ∀ ds m R x, ph_need_both A ds m R x → psi_need_both A (startD 2 ds) m (endD R x) := by
  rintro ds m R x ⟨dm, dk, rfl, h⟩
  simp [psi_need_both]
  exact ⟨dm, rfl, h.1, h.2.1, fun c dead dn e hM => ⟨dk, rfl, h.2.2 c dead dn e hM⟩⟩
theorem dt_pressed : ∀ ds m R x, ph_pressed A ds m R x → psi_pressed A (startD 2 ds) m (endD R x) := by
  rintro ds m R x ⟨dm, dk, rfl, h⟩
  simp [psi_pressed]
  refine ⟨dm, dk, rfl, h.imp fun c dead dn ks e hM e2 hk hl hR => ?_⟩
  subst e e2
  clear h
  have h := hR
  refine ⟨c, dead, dn, ks, rfl, hM, fun k hk' => kyG_ok (hk k hk'), hl, fun p m' hW => ?_⟩
  obtain ⟨ta, ma, ra, W⟩ := hW
  exact ⟨m, W.sub, h⟩
theorem dt_state : ∀ ds m R x, ph_state A ds m R x → psi_state A (startD 2 ds) m (endD R x) := by
  rintro ds m R x ⟨dm, dk, rfl, h⟩
  simp [psi_state]
  refine ⟨dm, dk, rfl, h.imp fun c dead dn ks e hM e2 hk hl hR => ?_⟩
  subst e e2
  clear h
  have h := hR
  refine ⟨c, dead, dn, ks, rfl, hM, fun k hk' => kyG_ok (hk k hk'), hl, fun p m' hW => ?_⟩
  obtain ⟨ta, ma, ra, W⟩ := hW
  show ownP A.cMachine m' p _ _
  rw [ow_stand W.hp]
  exact ⟨p, m, _, rfl, ⟨ta, ma, ra, W⟩, m, W.sub, h⟩
theorem dt_rung : ∀ ds m R x, ph_rung A ds m R x → psi_rung A (startD 2 ds) m (endD R x) := by
  rintro ds m R x ⟨dm, dk, rfl, h⟩
  simp [psi_rung]
  refine ⟨dm, dk, rfl, h.imp fun c dead dn ks e hM e2 hk hl hR => ?_⟩
  subst e e2
  clear h
  have h := hR
  refine ⟨c, dead, dn, ks, rfl, hM, fun k hk' => kyG_ok (hk k hk'), hl, fun p m' hW => ?_⟩
  obtain ⟨ta, ma, ra, W⟩ := hW
  have i0 : ∀ (d : D) (K : KD), wIx (.tup [.ref p, d]) (.int 0) m' K = K (.ref p) m' := fun _ _ => rfl
  rw [i0]
  simp only [gf_rings W.hp]
  refine ⟨ra, rfl, _, W.hr, m, fun a o e => ?_, h⟩
  have : a ≠ ra := fun q => by rw [q, W.nr] at e; cases e
  unfold sdel
  rw [if_neg this]
  exact W.sub a o e
end DL
end
section
set_option maxHeartbeats 0
namespace DL
open PySem
def psi_keys_of (A : Ad) : WS := wSeq (wSet 1 (wLst true (wNil))) (wSeq (wFor (iSeq (wVar 0)) (gNm 2) (wIfS (wTest (wOp wEq (wVar 2) (wC (.str (PySem.Str.ofString " "))))) (wExp (wMt "list" wAppend (wVar 1) (wCons (wTup (wCons (wC (.str (PySem.Str.ofString "blank"))) (wNil))) (wNil)))) (wIfS (wTest (wOp wIn (wVar 2) (wC (.str G_GREAT)))) (wExp (wMt "list" wExtend (wVar 1) (wCons (wLst false (wCons (wTup (wCons (wC (.str (PySem.Str.ofString "caps"))) (wNil))) (wCons (wCall 1 (ph_key_for A) (wCons (wVar 2) (wNil))) (wCons (wTup (wCons (wC (.str (PySem.Str.ofString "caps"))) (wNil))) (wNil))))) (wNil)))) (wExp (wMt "list" wAppend (wVar 1) (wCons (wTup (wCons (wC (.str (PySem.Str.ofString "sign"))) (wCons (wVar 2) (wNil)))) (wNil))))))) (wRet (wVar 1)))
def psi_on (A : Ad) : WS := wRet (wOp (wAdd false) (wOp (wMul false) (wLst false (wCons (wTup (wCons (wC (.str (PySem.Str.ofString "blank"))) (wNil))) (wNil))) (wOp wDiv (wVar 0) (wC (.int 2)))) (wOp (wMul false) (wLst false (wCons (wTup (wCons (wC (.str (PySem.Str.ofString "half"))) (wNil))) (wNil))) (wOp wMod (wVar 0) (wC (.int 2)))))
def psi_is_line (A : Ad) : WS := wSeq (wIfS (wOr (wNot (wTest (wCallB wIsi (wCons (wVar 1) (wCons (wC (.ty "str")) (wNil)))))) (wNot (wTest (wChain wLe wLe (wC (.int 1)) (wCallB wLen (wCons (wVar 1) (wNil))) (wC (.int 40)))))) (wRet (wC (.bl false))) (wNext)) (wRet (wCallB wAll (wCons (wLc false [3] (iSeq (wVar 1)) (gNm 3) (wYes) (wAndV (wOp wIn (wVar 3) (wOp (wAdd false) (wOp (wAdd false) (wC (.str G_SIGNS)) (wC (.str G_GREAT))) (wVar 2))) (wOp wNotIn (wVar 3) (wOp wIx (wVar 0) (wC (.int 1)))))) (wNil))))
def psi_flush (A : Ad) : WS := wSeq (wExp (wCall 1 (ph_need_machine A) (wCons (wVar 0) (wNil)))) (wSeq (wExp (wCall 3 (ph_need_margins A) (wCons (wVar 0) (wCons (wVar 1) (wCons (wVar 2) (wNil)))))) (wSeq (wIfS (wNot (wTest (wCall 3 (ph_is_line A) (wCons (wVar 0) (wCons (wVar 3) (wCons (wC (.str (PySem.Str.ofString " "))) (wNil))))))) (wRaise A.xNoText) (wNext)) (wSeq (wSet 4 (wOp wSub (wOp wSub (wVar 2) (wVar 1)) (wOp (wMul false) (wC (.int 2)) (wCallB wLen (wCons (wVar 3) (wNil)))))) (wSeq (wIfS (wTest (wOp wLt (wVar 4) (wC (.int 0)))) (wRaise A.xTooWide) (wNext)) (wRet (wCallB wTuple (wCons (wOp (wAdd false) (wCall 1 (ph_on A) (wCons (wVar 4) (wNil))) (wFrz (wCall 1 (ph_keys_of A) (wCons (wVar 3) (wNil))))) (wNil))))))))
def psi_centred (A : Ad) : WS := wSeq (wExp (wCall 1 (ph_need_machine A) (wCons (wVar 0) (wNil)))) (wSeq (wExp (wCall 3 (ph_need_margins A) (wCons (wVar 0) (wCons (wVar 1) (wCons (wVar 2) (wNil)))))) (wSeq (wIfS (wNot (wTest (wCall 3 (ph_is_line A) (wCons (wVar 0) (wCons (wVar 3) (wCons (wC (.str (PySem.Str.ofString " "))) (wNil))))))) (wRaise A.xNoText) (wNext)) (wSeq (wSet 4 (wOp wSub (wOp wSub (wVar 2) (wVar 1)) (wOp (wMul false) (wC (.int 2)) (wCallB wLen (wCons (wVar 3) (wNil)))))) (wSeq (wIfS (wTest (wOp wLt (wVar 4) (wC (.int 0)))) (wRaise A.xTooWide) (wNext)) (wRet (wCallB wTuple (wCons (wOp (wAdd false) (wCall 1 (ph_on A) (wCons (wOp wDiv (wVar 4) (wC (.int 2))) (wNil))) (wFrz (wCall 1 (ph_keys_of A) (wCons (wVar 3) (wNil))))) (wNil))))))))
end DL
end
section
set_option maxHeartbeats 0
namespace DL
open PySem
variable {A : Ad} (hA : AdOk A)
include hA
theorem dt_keys_of : ∀ ds m R x, ph_keys_of A ds m R x → psi_keys_of A (startD 3 ds) m (endD R x) := by
  rintro ds m R x ⟨s, rfl, hl, h⟩
  simp [psi_keys_of, asI]
  intro a na
  refine for_inv (fun ds r m' => ∃ dn rest v, s.cps.toList = dn ++ rest ∧ ds = rest.map ch ∧ r = [some (.str s), some (.ref a), v] ∧ m' = sup m a (.lst (keysOf dn))) _ _ _ ⟨[], s.cps.toList, none, rfl, by simp, rfl, rfl⟩ ?_ ?_
  · rintro d ds r m' ⟨dn, rest, v, e1, e2, rfl, rfl⟩ P hP
    cases rest with
    | nil => cases e2
    | cons c rest =>
      simp at e2
      obtain ⟨rfl, rfl⟩ := e2
      refine ⟨trivial, ?_⟩
      have hlen : (keysOf dn).length ≤ 3000 := by
        have := keysOf_len dn
        have : dn.length ≤ s.length := by
          have : s.length = s.cps.toList.length := by simp [PySem.Str.length]
          rw [this, e1]; simp
        omega
      have nx : ∀ u, u = keysOf dn ++ keyOf c → P [some (.str s), some (.ref a), some (ch c)] (sup m a (.lst u)) := by
        rintro u rfl
        refine hP _ _ ⟨dn ++ [c], rest, _, by rw [e1]; simp, rfl, rfl, by rw [keysOf_snoc]⟩
      simp [wEq, wIn, wInB]
      have hg : (c ∈ G_GREAT.cps) ↔ 65 ≤ c ∧ c < 91 := by
        rw [← Array.mem_toList_iff, great_cs hA, List.mem_range'_1]
      by_cases h1 : c = 32
      · subst h1
        simp [tyM, sup_same, wAppend, sup_sup]
        exact ⟨by decide, by rw [LIMv]; omega, nx _ (by simp [keyOf, k1, wordD])⟩
      · by_cases h2 : 65 ≤ c ∧ c < 91
        · simp [h1, hg, h2, tyM, sup_same]
          refine ⟨by decide, c, rfl, by decide, by decide, ?_⟩
          simp [wExtend, sup_same, asL, sup_sup]
          refine ⟨by rw [LIMv]; omega, nx _ ?_⟩
          have e : loC c = c + 32 := by unfold loC; rw [if_pos (by omega)]
          have h3 : 65 ≤ c ∧ c ≤ 90 := by omega
          simp [keyOf, k1, wordD, h1, h3, e, kS]
        · have h3 : ¬ (65 ≤ c ∧ c ≤ 90) := by omega
          simp [h1, hg, h2, tyM, sup_same, wAppend, sup_sup]
          exact ⟨by decide, by rw [LIMv]; omega, nx _ (by simp [keyOf, kS, wordD, h1, h3])⟩
  · rintro r m' ⟨dn, rest, v, e1, e2, rfl, rfl⟩
    have e3 : rest = [] := by cases rest with | nil => rfl | cons a b => cases e2
    subst e3
    refine ⟨trivial, ?_⟩
    simp
    rw [List.append_nil] at e1
    rw [e1] at h
    exact h a na
theorem dt_on : ∀ ds m R x, ph_on A ds m R x → psi_on A (startD 1 ds) m (endD R x) := by
  rintro ds m R x ⟨n, rfl, h0, h1, h⟩
  have L : LIM = 16777216 := rfl
  simp [psi_on, wDiv, wMod, wMul, asL, wAdd, repD_one]
  refine ⟨by omega, by omega, by omega, by omega, by omega, by omega, by omega, by omega, by omega, ?_⟩
  exact h
theorem dt_is_line : ∀ ds m R x, ph_is_line A ds m R x → psi_is_line A (startD 4 ds) m (endD R x) := by
  rintro ds m R x ⟨c, dead, dn, d, more, rfl, ht, hl, hm, h⟩
  simp [psi_is_line, wIsi]
  have L : LIM = 16777216 := rfl
  cases d with
  | str s =>
    have hl := hl s rfl
    simp [tyN, isiN, wLen, hl, wLe]
    by_cases h1 : 1 ≤ s.length
    · by_cases h2 : s.length ≤ 40
      · have h1' : (1 : Int) ≤ (s.length : Int) := by omega
        have h2' : (s.length : Int) ≤ 40 := by omega
        simp only [h1', h2', asI, decide_true, Bool.not_true, Bool.false_eq_true, if_false]
        have h3 : s.cps.toList.length ≤ LIM := by
          have : s.cps.toList.length = s.length := by simp [PySem.Str.length]
          omega
        refine lc_map (G := fun _ => True) ch (fun k => .bl (decide (k ∈ (G_SIGNS ++ G_GREAT ++ more).cps.toList) && decide (k ∉ dead))) trivial s.cps.toList [] _ (by simpa using h3) (fun k hk K1 hK => ?_) ?_
        · have hz : (G_SIGNS ++ G_GREAT).length = 68 := by decide +kernel
          have hs : G_SIGNS.length + G_GREAT.length ≤ LIM := by decide +kernel
          simp [wAdd, hs, hz]
          refine ⟨by omega, ?_⟩
          simp only [wIn, wInB]
          refine ⟨k, rfl, ?_⟩
          by_cases hk2 : k ∈ (G_SIGNS ++ G_GREAT ++ more).cps.toList
          · simp only [hk2, decide_true]
            refine in_dead hA (b := true) ?_
            simpa [hk2] using hK
          · simp only [hk2, decide_false]
            simpa [hk2] using hK
        · rw [List.nil_append]
          show wAll _ m R
          have e : (s.cps.toList.map fun k => D.bl (decide (k ∈ (G_SIGNS ++ G_GREAT ++ more).cps.toList) && decide (k ∉ dead))) = (s.cps.toList.map fun k => decide (k ∈ (G_SIGNS ++ G_GREAT ++ more).cps.toList) && decide (k ∉ dead)).map .bl := by simp
          rw [e]
          refine all_lst ?_
          simpa [lineB, h1, h2, List.all_map, Function.comp] using h
      · have h1' : (1 : Int) ≤ (s.length : Int) := by omega
        have h2' : ¬ (s.length : Int) ≤ 40 := by omega
        simp [h1', h2']
        simpa [lineB, h1, h2] using h
    · have h1' : ¬ (1 : Int) ≤ (s.length : Int) := by omega
      simp [h1']
      simpa [lineB, h1] using h
  | ref a =>
    simp [tyN] at ht ⊢
    cases e : m a with
    | none => simp [e] at ht
    | some o => cases o <;> simp [e, isiN, lineB] at ht h ⊢ <;> exact h
  | _ => simp [tyN, isiN, lineB] at ht h ⊢ <;> exact h
theorem dt_fl (half : Bool) {w : WE} (hw : ∀ (r : Env) m R x (n : Int), get r 4 = some (.int n) → (0 ≤ n → R (.int (if half then n / 2 else n)) m) → 0 ≤ n → w r m R x) : ∀ ds m R x, phFl half A ds m R x → 
    (wSeq (wExp (wCall 1 (ph_need_machine A) (wCons (wVar 0) (wNil)))) (wSeq (wExp (wCall 3 (ph_need_margins A) (wCons (wVar 0) (wCons (wVar 1) (wCons (wVar 2) (wNil)))))) (wSeq (wIfS (wNot (wTest (wCall 3 (ph_is_line A) (wCons (wVar 0) (wCons (wVar 3) (wCons (wC (.str (PySem.Str.ofString " "))) (wNil))))))) (wRaise A.xNoText) (wNext)) (wSeq (wSet 4 (wOp wSub (wOp wSub (wVar 2) (wVar 1)) (wOp (wMul false) (wC (.int 2)) (wCallB wLen (wCons (wVar 3) (wNil)))))) (wSeq (wIfS (wTest (wOp wLt (wVar 4) (wC (.int 0)))) (wRaise A.xTooWide) (wNext)) (wRet (wCallB wTuple (wCons (wOp (wAdd false) (wCall 1 (ph_on A) (wCons w (wNil))) (wFrz (wCall 1 (ph_keys_of A) (wCons (wVar 3) (wNil))))) (wNil))))))))) (startD 5 ds) m (endD R x) := by
  rintro ds m R x ⟨dm, l, r, t, rfl, h⟩
  have L : LIM = 16777216 := rfl
  simp
  refine ⟨dm, rfl, h.imp fun c dead dn e hM hR => ?_⟩
  subst e
  clear h
  have h := hR
  obtain ⟨hl, hr, ht, hs, h⟩ := h
  refine ⟨_, _, _, _, _, rfl, hM, hl, hr, ?_⟩
  cases h1 : marB (2 * c) l r with
  | false => simp [flushO, h1, Ad.cls] at h ⊢; exact h
  | true =>
    simp only [if_true]
    refine ⟨_, _, _, _, _, rfl, ht, hs, by decide, ?_⟩
    cases h2 : lineB dead t ⟨#[32]⟩ with
    | false => simp [flushO, h1, h2, Ad.cls] at h ⊢; exact h
    | true =>
      obtain ⟨a, b, rfl, rfl, ha, hb, hab⟩ : ∃ a b, l = .int a ∧ r = .int b ∧ 0 ≤ a ∧ b ≤ 2 * c ∧ a < b := by
        cases l <;> cases r <;> simp [marB, wholeB] at h1
        rename_i a b
        exact ⟨a, b, rfl, rfl, h1.1.1.1, h1.1.2.2, h1.2⟩
      obtain ⟨s, rfl⟩ : ∃ s, t = .str s := by cases t <;> simp [lineB] at h2; exact ⟨_, rfl⟩
      have hs := hs s rfl
      have hs40 : s.length ≤ 40 := by simp [lineB] at h2; omega
      simp only [flushO, h1, h2, if_true] at h
      have hc := hM.hi
      simp [wSub, wLen, hs, wMul, wLt]
      by_cases h3 : b - a - 2 * (s.length : Int) < 0
      · simp [h3, Ad.cls] at h ⊢
        exact h
      · simp [h3] at h ⊢
        refine hw _ _ _ _ (b - a - 2 * (s.length : Int)) (by simp) (fun h0 => ?_) (by omega)
        try simp
        refine ⟨_, rfl, by split <;> omega, by split <;> omega, ?_⟩
        refine ⟨s, rfl, by omega, fun ka nka => ?_⟩
        refine ⟨ka, rfl, _, sup_same, ?_⟩
        rw [sdel_sup nka]
        have k1 := keysOf_len s.cps.toList
        have k2 : s.cps.toList.length = s.length := by simp [PySem.Str.length]
        have k3 : (onD (if half = true then (b - a - 2 * (s.length : Int)) / 2 else b - a - 2 * (s.length : Int))).length ≤ 2000 := by
          simp only [onD, List.length_append, List.length_replicate]
          split <;> omega
        refine ⟨_, _, rfl, rfl, by omega, ?_⟩
        simp [wTuple, asQ, asL]
        exact h
theorem dt_flush : ∀ ds m R x, ph_flush A ds m R x → psi_flush A (startD 5 ds) m (endD R x) := fun ds m R x h => dt_fl hA false (fun r m R x n e h h0 => by simp [e]; simpa using h h0) ds m R x h
theorem dt_centred : ∀ ds m R x, ph_centred A ds m R x → psi_centred A (startD 5 ds) m (endD R x) := fun ds m R x h => dt_fl hA true (fun r m R x n e h h0 => by simp [e, wDiv]; simpa using h h0) ds m R x h
end DL
end
section
set_option maxHeartbeats 0
namespace DL
open PySem
def ph__law_key (A : Ad) : FW := fun ds m R _ => ∃ ns t us, ds = [.scr ns, .ref t] ∧ m t = some (.lst us) ∧ us.length + 2 < LIM ∧ ∀ (k : Ky) us', kyG k → us'.length = us.length + 2 → R (kyD k) (sup m t (.lst us'))
def ph__law_keys (A : Ad) : FW := fun ds m R _ => ∃ (ns : List Int) (t : Addr) (most : Nat) (us : List D), ds = [.scr ns, .ref t, .int (most : Nat)] ∧ most ≤ 1000 ∧ m t = some (.lst us) ∧ us.length + 5000 < LIM ∧ ∀ (ks : List Ky) us', (∀ k ∈ ks, kyG k) → ks.length ≤ most → us'.length ≤ us.length + 1 + 4 * most → R (.tup (ks.map kyD)) (sup m t (.lst us'))
def ph__law_stand (A : Ad) : FW := fun ds m R _ => ∃ w m0 s, ds = [.ref w] ∧ Wk m0 w m s ∧ s.tabs.Nodup ∧ R (standD s) m
end DL
end
section
set_option maxHeartbeats 0
namespace DL
open PySem PySem.Spec PyProof.Rows L2 StrLaws
theorem occ_one (s : Str) (c : Nat) (lim : Nat) : ∀ (n i : Nat) (st : Array Nat × Nat), st.2 ≤ i → st.1.size + n ≤ lim → i + n ≤ s.length + 1 →
    (forIn (List.range' i n) st (occBody s ⟨#[c]⟩ s.length lim)).run.fst.size = st.1.size + ((s.cps.toList.drop i).take n).count c
  | 0, i, st, _, _, _ => by simp [List.range']
  | n + 1, i, st, h1, h2, h3 => by
    have hat : (i + 1 ≤ s.length ∧ Builtin.Str.subAt s ⟨#[c]⟩ i = true) ↔ s.cps.toList[i]? = some c := StrLaws.subAt_one s c i
    rw [List.range'_succ, List.forIn_cons]
    unfold occBody
    have hl : s.cps.toList.length = s.length := by simp [PySem.Str.length]
    split
    · rename_i hc
      have hcc : s.cps.toList[i]? = some c := hat.mp ⟨by have := hc.1.2; simpa [PySem.Str.length] using this, hc.2⟩
      have hi : i < s.cps.toList.length := by
        rcases Nat.lt_or_ge i s.cps.toList.length with z | z
        · exact z
        · rw [List.getElem?_eq_none z] at hcc; cases hcc
      have hx : s.cps.toList[i] = c := by rw [List.getElem?_eq_getElem hi] at hcc; exact Option.some.inj hcc
      have ih := occ_one s c lim n (i + 1) (st.1.push i, i + 1) (Nat.le_refl _) (by simp; omega) (by omega)
      refine Eq.trans ih ?_
      rw [List.drop_eq_getElem_cons hi, List.take_succ_cons, List.count_cons, hx]
      simp; omega
    · rename_i hc
      have ih := occ_one s c lim n (i + 1) st (by omega) (by omega) (by omega)
      refine Eq.trans ih ?_
      rcases Nat.lt_or_ge i s.cps.toList.length with hi | hi
      · have hx : s.cps.toList[i] ≠ c := fun e => hc ⟨⟨⟨by omega, h1⟩, by
          show i + 1 ≤ s.length; omega⟩, (hat.mpr (by rw [List.getElem?_eq_getElem hi, e])).2⟩
        rw [List.drop_eq_getElem_cons hi, List.take_succ_cons, List.count_cons]
        have : (s.cps.toList[i] == c) = false := by simpa using hx
        rw [this]; simp
      · rw [List.drop_of_length_le hi, List.drop_of_length_le (by omega)]; simp
theorem count_one (s : Str) (c : Nat) : Txt.count s ⟨#[c]⟩ = ((s.cps.toList.count c : Nat) : Int) := by
  unfold Txt.count
  have hl : s.cps.toList.length = s.length := by simp [PySem.Str.length]
  have h := occ_one s c (s.length + 1) (s.length + 1) 0 (#[], 0) (Nat.le_refl _) (by simp) (by omega)
  rw [occ_eq, Array.length_toList, Nat.sub_zero, h, List.drop_zero, List.take_of_length_le (by omega)]
  simp
theorem start_one (s : Str) (c : Nat) : Txt.startswith s ⟨#[c]⟩ = decide (s.cps.toList.head? = some c) := by
  unfold Txt.startswith
  have h := StrLaws.subAt_one s c 0
  rw [Bool.eq_iff_iff, Bool.and_eq_true, decide_eq_true_eq, decide_eq_true_eq]
  rw [h, List.head?_eq_getElem?]
def wSCount : WM := fun d us m R => match d, us with
  | .str s, [.str t] => ∃ c, t = ⟨#[c]⟩ ∧ R (.int ((s.cps.toList.count c : Nat) : Int)) m
  | _, _ => False
def wSStart : WM := fun d us m R => match d, us with
  | .str s, [.str t] => ∃ c, t = ⟨#[c]⟩ ∧ R (.bl (decide (s.cps.toList.head? = some c))) m
  | _, _ => False
section
variable {X : Cx}
theorem scount_ : MtD X "str.count" wSCount := by
  refine ⟨_, mt_count, fun B u d us ds p ps H m R Q S h t => ?_⟩
  match d, ds, h with
  | .str s, [.str w], h =>
    obtain ⟨v, rfl, q⟩ := one_arg ps rfl
    cases p
    cases q
    obtain ⟨c, rfl, h3⟩ := h
    rw [← count_one] at h3
    exact ⟨s, _, rfl, rfl, eff_ret S t (.int _) h3⟩
theorem sstart_ : MtD X "str.startswith" wSStart := by
  refine ⟨_, mt_startswith, fun B u d us ds p ps H m R Q S h t => ?_⟩
  match d, ds, h with
  | .str s, [.str w], h =>
    obtain ⟨v, rfl, q⟩ := one_arg ps rfl
    cases p
    cases q
    obtain ⟨c, rfl, h3⟩ := h
    rw [← start_one] at h3
    exact ⟨s, _, rfl, rfl, eff_ret S t (.bl _) h3⟩
end
end DL
end
section
set_option maxHeartbeats 0
namespace DL
open PySem
def mkLt (a b : Mk) : Bool := decide (a.row < b.row) || (decide (a.row = b.row) && (decide (a.place < b.place) || (decide (a.place = b.place) && decide (a.n < b.n))))
def sortM (ms : List Mk) : List Mk := ms.mergeSort (fun a b => !mkLt b a)
def ph__law_marks (A : Ad) : FW := fun ds m R _ => ∃ w m0 s, ds = [.ref w] ∧ Wk m0 w m s ∧ s.marks.Pairwise (fun a b => a.n < b.n) ∧ (∀ k ∈ s.marks, k.sign < 128) ∧ s.marks.length < 1000000 ∧ R (.lst ((sortM s.marks).map mkD)) m
end DL
end
section
set_option maxHeartbeats 0
namespace DL
open PySem PySem.Spec PyProof.Rows L2
section
variable {prog : Program} {w : World} {A : Around} {E : Value → Shared → Prop} {s : Shared}
theorem enum_new {v : Value} {o : Obj} {H : Heap → Prop} (B : Begins v o H) :
    Meets (Builtin.«enumerate.__new__» ⟨[.type "enumerate", v], []⟩) (fun _ R s => H s.heap ∧ R (.ok (.ret (.ref (s.heap.push o).objs.size))) { s with heap := (s.heap.push o).push { cls := .type "enumerate", data := .fields #[.none, .bool false, .ref s.heap.objs.size, rawInt 0, .none, .none] } }) :=
  .of_wp fun prog w A R s h => by
    obtain ⟨hp, g, d, tk, os⟩ := s
    obtain ⟨h1, h⟩ := h
    have hsub := sub_enumerate
    have q1 : ∀ {A' : Around} {E : Value → Shared → Prop} {Q : Value → Shared → Prop}, Q (.ref hp.objs.size) ⟨hp.push o, g, d, tk, os⟩ → wpAny (model prog w) A' (pyIter v) Q E ⟨hp, g, d, tk, os⟩ := fun q => B.iter prog w _ _ ⟨hp, g, d, tk, os⟩ _ h1 q
    wp_walk using q1
    refine wpAny_stack_any fun st => wpAny_pure ?_
    split
    · rename_i c _ _ _ _ _
      cases (c == Value.type "enumerate") <;> (wp_walk using q1; exact ⟨_, rfl, h⟩)
    · wp_walk using q1; exact ⟨_, rfl, h⟩
theorem enum_call {v : Value} {o : Obj} {H : Heap → Prop} {Q : Value → Shared → Prop} (B : Begins v o H) (hH : H s.heap)
    (h : ∀ h', IsEnum h' (s.heap.objs.size + 1) s.heap.objs.size 0 .none → h'.get? s.heap.objs.size = some o → (∀ b o, s.heap.get? b = some o → h'.get? b = some o) → Q (.ref (s.heap.objs.size + 1)) { s with heap := h' }) :
    wpAny (model prog w) A (call (.type "enumerate") [v]) Q E s := by
  refine callType_new F.called_enumerate (by decide) (F.typeCall_enumerate_1 _) (F.newCall_enumerate_1 _) (fun obj => F.args_object_init_2 obj _) F.entry_enumerate_new (enum_new B) ⟨hH, ?_⟩
  have hz : (s.heap.push o).objs.size = s.heap.objs.size + 1 := Heap.size_push ..
  have he := Heap.get?_push_size (s.heap.push o) (o := { cls := .type "enumerate", data := .fields #[.none, .bool false, .ref s.heap.objs.size, rawInt 0, .none, .none] }) rfl
  rw [hz] at he
  show _ ∧ _
  rw [hz]
  exact ⟨⟨_, he, rfl⟩, h _ he (Heap.get?_push_of_some _ (Heap.get?_push_size _ B.free)) fun b o x => Heap.get?_push_of_some _ (Heap.get?_push_of_some _ x)⟩
end
def IteT (K : PySem.W.Frag) (a : Addr) (xs : List V) : It :=
  ⟨fun i H => i < xs.length ∧ SqT K H a xs, fun i H v H' => ∃ T x, v = .ref T ∧ H T = none ∧ H' = upd H T (.tup [.int (i : Nat), x]) ∧ xs[i]? = some x, fun i H => xs.length ≤ i ∧ SqT K H a xs⟩
def IteS (x : Str) : It :=
  ⟨fun i _ => i < x.cps.size, fun i H v H' => ∃ T c, v = .ref T ∧ H T = none ∧ H' = upd H T (.tup [.int (i : Nat), .str ⟨#[c]⟩]) ∧ x.cps[i]? = some c, fun i _ => x.cps.size ≤ i⟩
theorem turn_enumT {P : Program} {w : World} {K : PySem.W.Frag} {elts : List Expr} {kk : Nat} {tpos : Pos} (a e it : Addr) (xs : List V) :
    Turn P w K (.Tuple elts kk tpos) (IteT K a xs) [e, it] e (fun i h => i ≤ xs.length ∧ (∃ old, IsEnum h e it ((i : Nat) : Int) old) ∧ h.IsTupleIter it a i ∧ e ≠ it ∧ a ≠ it ∧ a ≠ e) where
  mem := by simp
  obj := fun i h st b hb => by
    obtain ⟨_, ⟨old, he⟩, ⟨o, ho, hc, hd⟩, _⟩ := st
    have e' : b = e ∨ b = it := by simpa using hb
    rcases e' with z | z
    · rw [z]; exact ⟨_, he, fun v q => nomatch q⟩
    · rw [z]; exact ⟨o, ho, fun v q => by rw [hd] at q; cases q⟩
  keep := fun i h h' st k => let ⟨hi0, ⟨old, he⟩, hi, hne⟩ := st; ⟨hi0, ⟨old, k e (by simp) _ he⟩, hi.at fun o q => k it (by simp) o q, hne⟩
  item := by
    intro X hP hw hK hc i pins s σ H E I hf st hg
    subst hP hw hK
    obtain ⟨hi0, ⟨old, he⟩, hit, hne, hai, hae⟩ := st
    obtain ⟨hi, hq⟩ := hg
    obtain ⟨its, rv, p, hz⟩ := I.tuple hq
    have hil : i < its.toArray.size := by rw [List.size_toArray, ← rv.length]; exact hi
    have hel : e < s.heap.objs.size := Heap.lt_size he
    have hitl : it < s.heap.objs.size := by obtain ⟨_, q, _⟩ := hit; exact Heap.lt_size q
    have hh : X.A.in1.handled = none := by simp [I.ok.hd hc]
    refine wpAny_pyNext_enum_itemD (Draws.tuple hh it a hai its.toArray) he ⟨hit, p⟩ hil hne (by simp; exact ⟨hne, fun z => hae z.symm⟩) fun u h' tk hu ho hst hT hsz hk => ?_
    obtain ⟨x, hx, rx⟩ : ∃ x, xs[i]? = some x ∧ RelV x u := by
      obtain ⟨u', h1, h2⟩ := rv.get (List.getElem?_eq_getElem hi)
      have : its[i]? = some u := by simpa using hu
      rw [this] at h1; cases h1
      exact ⟨xs[i], List.getElem?_eq_getElem hi, h2⟩
    refine ⟨_, rfl, wpAny_letOwnedTupleGo_enum (s := { s with heap := h', toks := tk + 1 }) ho fun h'' he' sb => ?_⟩
    have hT2 : h''.get? s.heap.objs.size = some { cls := .type "tuple", data := .seq #[.int i tk, u] } := (sb.2 _ (Nat.ne_of_gt hel)).trans hT
    have new : ObjOk X.prog X.w (upd H s.heap.objs.size (.tup [.int (i : Nat), x])) h'' s.heap.objs.size (.tup [.int (i : Nat), x]) :=
      ⟨by show 2 ≤ sizeLine; decide, [.int i tk, u], .cons ⟨_, rfl⟩ (.cons rx .nil), ⟨_, hT2, rfl, _, rfl⟩⟩
    have I1 : Inv X pins σ (upd H s.heap.objs.size (.tup [.int (i : Nat), x])) { s with heap := h'', toks := tk + 1 } :=
      I.turnedNew (ch := [e, it]) (fun b ob hb q => (sb.2 b (fun z => hb (by simp [z]))).trans (hk b ob (fun z => hb (by simp [z])) (fun z => hb (by simp [z])) q)) hf (Nat.le_refl _) new
    refine ⟨.ref s.heap.objs.size, _, I1, rfl, ⟨_, x, rfl, I.hok.fresh (Nat.le_refl _), rfl, hx⟩, ⟨hi, ⟨u, ?_⟩, hst.1.at fun o q => (sb.2 it (Ne.symm hne)).trans q, hne, hai, hae⟩, fun b hb => ?_⟩
    · have e1 : ((i + 1 : Nat) : Int) = (i : Int) + 1 := by omega
      rw [e1]; exact he'
    · have hb' : b < s.heap.objs.size := by
        have e' : b = e ∨ b = it := by simpa using hb
        rcases e' with z | z
        · rw [z]; exact hel
        · rw [z]; exact hitl
      rw [upd_ne (Nat.ne_of_lt hb')]
      exact (hf b hb).1
  done := by
    intro X hP hw hK hc i pins s σ H E I hf st hg
    subst hP hw hK
    obtain ⟨hi0, ⟨old, he⟩, hit, hne, hai, hae⟩ := st
    obtain ⟨hi, hq⟩ := hg
    obtain ⟨its, rv, p, hz⟩ := I.tuple hq
    obtain ⟨f0, f1, f2, f3, f4, f5⟩ := hf it (by simp)
    have hh : X.A.in1.handled = none := by simp [I.ok.hd hc]
    have hin : i = its.toArray.size := by rw [List.size_toArray, ← rv.length]; omega
    exact wpAny_pyNext_enum_endD (Draws.tuple hh it a hai its.toArray) he ⟨by rw [← hin]; exact hit, p⟩ fun h' eb => ⟨rfl, I.turned (t' := s.toks) (fun b o hb q => eb b o hb q) f0 f1 f3 f4 f5⟩
  self := fun A i s Q E st h => let ⟨_, ⟨_, he⟩, _⟩ := st; wpAny_pyIter_enum he h
theorem turn_enumS {P : Program} {w : World} {K : PySem.W.Frag} {elts : List Expr} {kk : Nat} {tpos : Pos} (e it : Addr) (x : Str) (t : Tok) :
    Turn P w K (.Tuple elts kk tpos) (IteS x) [e, it] e (fun i h => i ≤ x.cps.size ∧ (∃ old, IsEnum h e it ((i : Nat) : Int) old) ∧ h.IsStrIter it (strIterType x) x t i ∧ e ≠ it) where
  mem := by simp
  obj := fun i h st b hb => by
    obtain ⟨_, ⟨old, he⟩, ⟨o, ho, hc, hd⟩, _⟩ := st
    have e' : b = e ∨ b = it := by simpa using hb
    rcases e' with z | z
    · rw [z]; exact ⟨_, he, fun v q => nomatch q⟩
    · rw [z]; exact ⟨o, ho, fun v q => by rw [hd] at q; cases q⟩
  keep := fun i h h' st k => let ⟨hi0, ⟨old, he⟩, ⟨o, ho, hr⟩, hne⟩ := st; ⟨hi0, ⟨old, k e (by simp) _ he⟩, ⟨o, k it (by simp) o ho, hr⟩, hne⟩
  item := by
    intro X hP hw hK hc i pins s σ H E I hf st hg
    subst hP hw hK
    obtain ⟨hi0, ⟨old, he⟩, hit, hne⟩ := st
    have hel : e < s.heap.objs.size := Heap.lt_size he
    have hitl : it < s.heap.objs.size := by obtain ⟨_, q, _⟩ := hit; exact Heap.lt_size q
    have hh : X.A.in1.handled = none := by simp [I.ok.hd hc]
    refine wpAny_pyNext_enum_itemD (Draws.text hh it x t) he hit hg hne (by simp; exact hne) fun u h' tk hu ho hst hT hsz hk => ?_
    obtain ⟨c, tu, hc', rfl⟩ := hu
    refine ⟨_, rfl, wpAny_letOwnedTupleGo_enum (s := { s with heap := h', toks := tk + 1 }) ho fun h'' he' sb => ?_⟩
    have hT2 : h''.get? s.heap.objs.size = some { cls := .type "tuple", data := .seq #[.int i tk, .str ⟨#[c]⟩ tu] } := (sb.2 _ (Nat.ne_of_gt hel)).trans hT
    have new : ObjOk X.prog X.w (upd H s.heap.objs.size (.tup [.int (i : Nat), .str ⟨#[c]⟩])) h'' s.heap.objs.size (.tup [.int (i : Nat), .str ⟨#[c]⟩]) :=
      ⟨by show 2 ≤ sizeLine; decide, [.int i tk, .str ⟨#[c]⟩ tu], .cons ⟨_, rfl⟩ (.cons ⟨_, rfl⟩ .nil), ⟨_, hT2, rfl, _, rfl⟩⟩
    have I1 : Inv X pins σ (upd H s.heap.objs.size (.tup [.int (i : Nat), .str ⟨#[c]⟩])) { s with heap := h'', toks := tk + 1 } :=
      I.turnedNew (ch := [e, it]) (fun b ob hb q => (sb.2 b (fun z => hb (by simp [z]))).trans (hk b ob (fun z => hb (by simp [z])) (fun z => hb (by simp [z])) q)) hf (Nat.le_refl _) new
    refine ⟨.ref s.heap.objs.size, _, I1, rfl, ⟨_, c, rfl, I.hok.fresh (Nat.le_refl _), rfl, hc'⟩, ⟨hg, ⟨.str ⟨#[c]⟩ tu, ?_⟩, ?_, hne⟩, fun b hb => ?_⟩
    · have e1 : ((i + 1 : Nat) : Int) = (i : Int) + 1 := by omega
      rw [e1]; exact he'
    · obtain ⟨o, ho2, hr⟩ := hst
      exact ⟨o, (sb.2 it (Ne.symm hne)).trans ho2, hr⟩
    · have hb' : b < s.heap.objs.size := by
        have e' : b = e ∨ b = it := by simpa using hb
        rcases e' with z | z
        · rw [z]; exact hel
        · rw [z]; exact hitl
      rw [upd_ne (Nat.ne_of_lt hb')]
      exact (hf b hb).1
  done := by
    intro X hP hw hK hc i pins s σ H E I hf st hg
    subst hP hw hK
    obtain ⟨hi0, ⟨old, he⟩, hit, hne⟩ := st
    obtain ⟨f0, f1, f2, f3, f4, f5⟩ := hf it (by simp)
    have hh : X.A.in1.handled = none := by simp [I.ok.hd hc]
    have hin : i = x.cps.size := Nat.le_antisymm hi0 hg
    exact wpAny_pyNext_enum_endD (Draws.text hh it x t) he (by rw [← hin]; exact hit) fun h' eb => ⟨rfl, I.turned (t' := s.toks) (fun b o hb q => eb b o hb q) f0 f1 f3 f4 f5⟩
  self := fun A i s Q E st h => let ⟨_, ⟨_, he⟩, _⟩ := st; wpAny_pyIter_enum he h
def iEnumV (K : PySem.W.Frag) (ta : TA) : TI := fun σ H R => ta σ H fun vs H1 => (∃ a xs, vs = [.ref a] ∧ SqT K H1 a xs ∧ R (IteT K a xs) H1) ∨ ∃ x, vs = [.str x] ∧ R (IteS x) H1
theorem pi_enumV {X : Cx} {e : Expr} {ta : TA} {p pos tpos : Pos} {elts : List Expr} {kk : Nat} (hg : Gl X "enumerate") (hm : X.mg "enumerate" = none) (ha : PA X [e] ta) (hs : starEach [e] X.env = [(false, eval e X.env)] := by rfl) :
    PI X (.Tuple elts kk tpos) (.Call (.Name "enumerate" p) [e] [] pos) (iEnumV X.K ta) := by
  refine ⟨fun pins s σ H R I h => ?_⟩
  refine Call_ (ld_blt I hg hm boot_enumerate (PyProof.Rows.callWith_type1 (thn (ha.run pos pins s σ H _ I h) fun us s1 ⟨vs, H1, I1, r1, q1⟩ => ?_) hs rfl))
  have fpk : ∀ b ∈ [s1.heap.objs.size + 1, s1.heap.objs.size], FpOk X pins H1 b := fun b hb => by
    have e' : b = s1.heap.objs.size + 1 ∨ b = s1.heap.objs.size := by simpa using hb
    have hle : s1.heap.objs.size ≤ b := by
      rcases e' with z | z
      · rw [z]; exact Nat.le_add_right _ _
      · rw [z]; exact Nat.le_refl _
    exact I1.fpOk hle (I1.hok.fresh hle)
  rcases q1 with ⟨a, xs, ex, hq, q⟩ | ⟨x, ex, q⟩
  · subst ex
    cases r1 with
    | cons r rr =>
      cases rr
      cases r
      obtain ⟨its, rv, p', hz⟩ := I1.tuple hq
      have hal : a < s1.heap.objs.size := by obtain ⟨_, q, _⟩ := p'; exact Heap.lt_size q
      refine enum_call (begins_tuple a its.toArray) p' fun h' he hit hk => wpAny_pyIter_enum he ?_
      have I2 : Inv X pins σ H1 { s1 with heap := h' } := I1.kept (t' := s1.toks) hk
      exact ⟨s1.heap.objs.size + 1, [s1.heap.objs.size + 1, s1.heap.objs.size], _, _, H1, rfl, I2, turn_enumT a (s1.heap.objs.size + 1) s1.heap.objs.size xs, ⟨Nat.zero_le _, ⟨.none, he⟩, ⟨_, hit, rfl, rfl⟩, Nat.succ_ne_self _, Nat.ne_of_lt hal, Nat.ne_of_lt (Nat.lt_succ_of_lt hal)⟩, fpk, q⟩
  · subst ex
    cases r1 with
    | cons r rr =>
      cases rr
      obtain ⟨t, rfl⟩ := r
      refine enum_call (begins_text x t) trivial fun h' he hit hk => wpAny_pyIter_enum he ?_
      have I2 : Inv X pins σ H1 { s1 with heap := h' } := I1.kept (t' := s1.toks) hk
      exact ⟨s1.heap.objs.size + 1, [s1.heap.objs.size + 1, s1.heap.objs.size], _, _, H1, rfl, I2, turn_enumS (s1.heap.objs.size + 1) s1.heap.objs.size x t, ⟨Nat.zero_le _, ⟨.none, he⟩, ⟨_, hit, rfl, rfl⟩, Nat.succ_ne_self _⟩, fpk, q⟩
end DL
end
section
set_option maxHeartbeats 0
namespace DL
open PySem PySem.Spec PyProof.Rows L2
section
variable {X : Cx} {W : WX} {a : Expr} {fa : WE} {pos p : Pos}
def iEnumA (a : WE) : WI := fun r m K x => a r m (fun u m1 => match u with
  | .tup xs => K (enumD 0 xs) (fun _ => True) m1
  | .str s => K (enumD 0 (s.cps.toList.map fun c => D.str ⟨#[c]⟩)) (fun _ => True) m1
  | _ => False) x
theorem irp_enumT {K : PySem.W.Frag} {B : Hp} {a : Addr} {vs : List V} {ds : List D} (h1 : SqT K B a vs) (h2 : DpAll K B vs ds) : IRp K B (IteT K a vs) (enumD 0 ds) (fun _ => True) := by
  refine ⟨fun i B' H m hi s S g => ?_, fun B' H m s S g => ?_, fun i B' H m x H' hi s S g y => ?_⟩
  · rw [enumD_len] at hi
    exact ⟨by rw [h2.length]; exact hi, sqT_mono (s.trans S.same) h1⟩
  · rw [enumD_len, ← h2.length]
    exact ⟨Nat.le_refl _, sqT_mono (s.trans S.same) h1⟩
  · rw [enumD_len] at hi
    obtain ⟨T, x2, rfl, nT, eH, g2⟩ := y
    obtain ⟨v', z1, z2⟩ := h2.get (List.getElem?_eq_getElem hi)
    rw [g2] at z1
    cases z1
    obtain ⟨B2, q1, q2, q3, q4⟩ := pair_yield S nT eH (.int (i : Nat)) (z2.mono s)
    exact ⟨B2, _, by rw [enumD_get, List.getElem?_eq_getElem hi]; simp, q1, q2, q3, q4⟩
theorem irp_enumS {K : PySem.W.Frag} {B : Hp} {z : Str} : IRp K B (IteS z) (enumD 0 (z.cps.toList.map fun c => D.str ⟨#[c]⟩)) (fun _ => True) := by
  have e : (enumD 0 (z.cps.toList.map fun c => D.str ⟨#[c]⟩)).length = z.cps.size := by rw [enumD_len]; simp
  refine ⟨fun i B' H m hi s S g => by rw [e] at hi; exact hi, fun B' H m s S g => by rw [e]; exact Nat.le_refl _, fun i B' H m x H' hi s S g y => ?_⟩
  obtain ⟨T, c, rfl, nT, eH, hc⟩ := y
  obtain ⟨B2, q1, q2, q3, q4⟩ := pair_yield S nT eH (.int (i : Nat)) (.str ⟨#[c]⟩)
  refine ⟨B2, _, ?_, q1, q2, q3, q4⟩
  rw [enumD_get, List.getElem?_map, Array.getElem?_toList, hc]; simp
theorem pid_enumA {elts : List Expr} {kk : Nat} {tpos : Pos} (hg : Gl X "enumerate") (hm : X.mg "enumerate" = none) (ha : PE X a (up X.K W fa)) (hs : starEach [a] X.env = [(false, eval a X.env)] := by rfl) : PI X (.Tuple elts kk tpos) (.Call (.Name "enumerate" p) [a] [] pos) (upI X.K W (iEnumA fa)) := PI.imp (pi_enumV hg hm (pa_cons ha pa_nil hs) hs) fun σ H R ⟨B, r, m, R', x, er, S, h, t, tx⟩ => by
  refine ⟨B, r, m, _, x, er, S, h, fun B1 d m1 u H1 s1 S1 f1 p1 q1 => ?_, tx⟩
  cases p1 with
  | tup h1 h2 => exact .inl ⟨_, _, rfl, sqT_mono S1.same h1, t B1 _ _ m1 H1 _ s1 S1 f1 (irp_enumT h1 h2) q1⟩
  | str z => exact .inr ⟨z, rfl, t B1 _ _ m1 H1 _ s1 S1 f1 irp_enumS q1⟩
  | _ => exact q1.elim
end
end DL
end
section
set_option maxHeartbeats 0
namespace DL
open PySem
def mkB (k : Mk) : D := .tup [.int k.row, .int k.place, ch k.sign, colD k.red]
def marksS (c : Int) (dead : List Nat) (dn : Int) (ks : List Ky) : List Mk := sortM (runL (newS c dead dn) ks).1.marks
def ph_marks_of (A : Ad) : FW := fun ds m R _ => ∃ (c : Int) (dead : List Nat) (dn : Int) (ks : List Ky), ds = [machD c dead dn, .tup (ks.map kyD)] ∧ MOk c dead dn ∧ (∀ k ∈ ks, kyOk k) ∧ ks.length ≤ 4000 ∧ R (.lst ((marksS c dead dn ks).map mkD)) m
def ph_strikes (A : Ad) : FW := fun ds m R x => ∃ dm dk, ds = [dm, dk] ∧ inBoth A m dm dk x fun c dead dn ks => R (.lst ((marksS c dead dn ks).map mkB)) m
end DL
end
section
set_option maxHeartbeats 0
namespace DL
open PySem PySem.Spec PyProof.Rows L2
def ItzLT (K : PySem.W.Frag) (a b : Addr) (xs ys : List V) : It :=
  ⟨fun i H => i < xs.length ∧ i < ys.length ∧ SqL K H a xs ∧ SqT K H b ys,
    fun i H v H' => ∃ T x y, v = .ref T ∧ H T = none ∧ H' = upd H T (.tup [x, y]) ∧ xs[i]? = some x ∧ ys[i]? = some y,
    fun i H => (xs.length ≤ i ∨ ys.length ≤ i) ∧ SqL K H a xs ∧ SqT K H b ys⟩
theorem turn_zipLT {P : Program} {w : World} {K : PySem.W.Frag} {elts : List Expr} {kk : Nat} {tpos : Pos} {a b z TI TO i1 i2 : Addr} (S : ZipSep2 z TI TO i1 i2 [i1, a] [i2, b]) (xs ys : List V) (ha : a ≠ i1) (hb : b ≠ i2) :
    Turn P w K (.Tuple elts kk tpos) (ItzLT K a b xs ys) [z, TI, TO, i1, i2] z (fun i h => i ≤ xs.length ∧ i ≤ ys.length ∧ IsZip h z TI TO .none ∧ IsTupOf2 h TI (.ref i1) (.ref i2) ∧ (∃ x y, IsTupOf2 h TO x y) ∧ h.IsListIter i1 a i ∧ h.IsTupleIter i2 b i) where
  mem := by simp
  obj := fun i h st c hc => by
    obtain ⟨_, _, hz, hTI, ⟨x, y, hTO⟩, ⟨o1, e1, _, d1⟩, ⟨o2, e2, _, d2⟩⟩ := st
    have e' : c = z ∨ c = TI ∨ c = TO ∨ c = i1 ∨ c = i2 := by simpa using hc
    rcases e' with q | q | q | q | q
    · rw [q]; exact ⟨_, hz, fun v q => nomatch q⟩
    · rw [q]; exact ⟨_, hTI, fun v q => nomatch q⟩
    · rw [q]; exact ⟨_, hTO, fun v q => nomatch q⟩
    · rw [q]; exact ⟨o1, e1, fun v q => by rw [d1] at q; cases q⟩
    · rw [q]; exact ⟨o2, e2, fun v q => by rw [d2] at q; cases q⟩
  keep := fun i h h' st k => by
    obtain ⟨l1, l2, hz, hTI, ⟨x, y, hTO⟩, h1, h2⟩ := st
    exact ⟨l1, l2, k z (by simp) _ hz, k TI (by simp) _ hTI, ⟨x, y, k TO (by simp) _ hTO⟩, h1.at fun o q => k i1 (by simp) o q, h2.at fun o q => k i2 (by simp) o q⟩
  item := by
    intro X hP hw hK hc i pins s σ H E I hf st hg
    subst hP hw hK
    obtain ⟨l1, l2, hz, hTI, ⟨x0, y0, hTO⟩, h1, h2⟩ := st
    obtain ⟨g1, g2, hqx, hqy⟩ := hg
    obtain ⟨its, rv, p, _⟩ := I.list hqx
    obtain ⟨its2, rv2, p2, _⟩ := I.tuple hqy
    have hzl : z < s.heap.objs.size := Heap.lt_size hz
    have hh : X.A.in1.handled = none := by simp [I.ok.hd hc]
    refine wpAny_pyNext_zipD2_item S (Draws.list hh i1 a ha its.toArray) (Draws.tuple hh i2 b hb its2.toArray) hz hTI hTO ⟨h1, p.isList⟩ ⟨h2, p2⟩ (by rw [List.size_toArray, ← rv.length]; exact g1) (by rw [List.size_toArray, ← rv2.length]; exact g2) fun u u2 h' tk hu hu2 z' TO' h1' h2' hT hsz hk => ?_
    obtain ⟨x, hx, ru⟩ : ∃ x, xs[i]? = some x ∧ RelV x u := by
      obtain ⟨u', q1, q2⟩ := rv.get (List.getElem?_eq_getElem g1)
      have : its[i]? = some u := by simpa using hu
      rw [this] at q1; cases q1
      exact ⟨xs[i], List.getElem?_eq_getElem g1, q2⟩
    obtain ⟨y, hy, ru2⟩ : ∃ y, ys[i]? = some y ∧ RelV y u2 := by
      obtain ⟨u', q1, q2⟩ := rv2.get (List.getElem?_eq_getElem g2)
      have : its2[i]? = some u2 := by simpa using hu2
      rw [this] at q1; cases q1
      exact ⟨ys[i], List.getElem?_eq_getElem g2, q2⟩
    refine ⟨_, rfl, wpAny_letOwnedTupleGo_zip (s := { s with heap := h', toks := tk }) z' fun h'' z'' sb => ?_⟩
    have hT2 : h''.get? s.heap.objs.size = some { cls := .type "tuple", data := .seq #[u, u2] } := (sb.2 _ (Nat.ne_of_gt hzl)).trans hT
    have new : ObjOk X.prog X.w (upd H s.heap.objs.size (.tup [x, y])) h'' s.heap.objs.size (.tup [x, y]) :=
      ⟨by show 2 ≤ sizeLine; decide, [u, u2], .cons ru (.cons ru2 .nil), ⟨_, hT2, rfl, _, rfl⟩⟩
    have I1 : Inv X pins σ (upd H s.heap.objs.size (.tup [x, y])) { s with heap := h'', toks := tk } :=
      I.turnedNew (t' := tk) (ch := [z, TI, TO, i1, i2]) (fun c o hb q => (sb.2 c (fun q' => hb (by simp [q']))).trans (hk c o (fun q' => hb (by simp [q'])) (fun q' => hb (by simp [q'])) (fun q' => hb (by simp [q'])) (fun q' => hb (by simp [q'])) q)) hf (Nat.le_refl _) new
    refine ⟨.ref s.heap.objs.size, _, I1, rfl, ⟨_, x, y, rfl, I.hok.fresh (Nat.le_refl _), rfl, hx, hy⟩, ⟨g1, g2, z'', ?_, ⟨u, u2, ?_⟩, ?_, ?_⟩, fun c hcm => ?_⟩
    · exact (sb.2 _ S.TIz).trans (hk _ _ S.TIz S.TITO S.TIi1 S.TIi2 hTI)
    · exact (sb.2 _ S.TOz).trans TO'
    · exact h1'.1.at fun o q => (sb.2 _ (Ne.symm S.zi1)).trans q
    · exact h2'.1.at fun o q => (sb.2 _ (Ne.symm S.zi2)).trans q
    · have hlt : c < s.heap.objs.size := by
        have e' : c = z ∨ c = TI ∨ c = TO ∨ c = i1 ∨ c = i2 := by simpa using hcm
        rcases e' with q | q | q | q | q
        · rw [q]; exact hzl
        · rw [q]; exact Heap.lt_size hTI
        · rw [q]; exact Heap.lt_size hTO
        · rw [q]; obtain ⟨_, e1, _⟩ := h1; exact Heap.lt_size e1
        · rw [q]; obtain ⟨_, e2, _⟩ := h2; exact Heap.lt_size e2
      rw [upd_ne (Nat.ne_of_lt hlt)]
      exact (hf c hcm).1
  done := by
    intro X hP hw hK hc i pins s σ H E I hf st hg
    subst hP hw hK
    obtain ⟨l1, l2, hz, hTI, ⟨x0, y0, hTO⟩, h1, h2⟩ := st
    obtain ⟨hend, hqx, hqy⟩ := hg
    obtain ⟨its, rv, p, _⟩ := I.list hqx
    obtain ⟨its2, rv2, p2, _⟩ := I.tuple hqy
    have e1 := rv.length
    have e2 := rv2.length
    have hh : X.A.in1.handled = none := by simp [I.ok.hd hc]
    refine wpAny_pyNext_zipD2_end S (Draws.list hh i1 a ha its.toArray) (Draws.tuple hh i2 b hb its2.toArray) hz hTI hTO ⟨h1, p.isList⟩ ⟨h2, p2⟩ (by simp; omega) (by simp; omega) (by simp; omega) fun h' tk hk => ⟨rfl, I.turnedL (t' := tk) (ch := [z, TI, TO, i1, i2]) (fun c o hb q =>
      hk c o (fun q' => hb (by simp [q'])) (fun q' => hb (by simp [q'])) (fun q' => hb (by simp [q'])) (fun q' => hb (by simp [q'])) q) hf⟩
  self := fun A i s Q E st h => wpAny_pyIter_zip st.2.2.1 h
theorem nmem2 {x y z : Addr} (h1 : x ≠ y) (h2 : x ≠ z) : x ∉ [y, z] := by simp [h1, h2]
theorem zsep (N a b : Nat) (la : a < N) (lb : b < N) : ZipSep2 (N + 4) (N + 2) (N + 3) N (N + 1) [N, a] [N + 1, b] := by
  have h0 : ∀ i j : Nat, i ≠ j → N + i ≠ N + j := fun i j h e => h (Nat.add_left_cancel e)
  have h1 : ∀ i : Nat, N + i ≠ a := fun i => by omega
  have h2 : ∀ i : Nat, N + i ≠ b := fun i => by omega
  have h3 : ∀ i : Nat, i ≠ 0 → N + i ≠ N := fun i h => by omega
  exact ⟨h0 2 4 (by decide), h0 3 4 (by decide), h0 2 3 (by decide), h3 2 (by decide), by simp, nmem2 (h3 4 (by decide)) (h1 4), nmem2 (h3 3 (by decide)) (h1 3), h0 2 1 (by decide), by simp, nmem2 (h0 4 1 (by decide)) (h2 4), nmem2 (h0 3 1 (by decide)) (h2 3), nmem2 (Ne.symm (h3 1 (by decide))) (h2 0), nmem2 (h3 1 (by decide)) (h1 1)⟩
def iZipLT (K : PySem.W.Frag) (ta : TA) : TI := fun σ H R => ta σ H fun vs H1 => ∃ a b xs ys, vs = [.ref a, .ref b] ∧ SqL K H1 a xs ∧ SqT K H1 b ys ∧ R (ItzLT K a b xs ys) H1
theorem pi_zipLT {X : Cx} {e e2 : Expr} {ta : TA} {p pos tpos : Pos} {elts : List Expr} {kk : Nat} (hg : Gl X "zip") (hm : X.mg "zip" = none) (ha : PA X [e, e2] ta)
    (hs : starEach [e, e2] X.env = (false, eval e X.env) :: starEach [e2] X.env := by rfl) (hpl : (backTo pos (starEach [e2] X.env)).any (·.1) = false := by rfl) :
    PI X (.Tuple elts kk tpos) (.Call (.Name "zip" p) [e, e2] [] pos) (iZipLT X.K ta) := by
  refine ⟨fun pins s σ H R I h => ?_⟩
  refine Call_ (ld_blt I hg hm PyProof.Rows.boot_zip (PyProof.Rows.callWith_type1 (thn (ha.run pos pins s σ H _ I h) fun us s1 ⟨vs, H1, I1, r1, q1⟩ => ?_) hs hpl))
  obtain ⟨a, b, xs, ys, ex, hqx, hqy, q⟩ := q1
  subst ex
  cases r1 with
  | cons r rr =>
    cases rr with
    | cons r' rr =>
      cases rr
      cases r
      cases r'
      have fresh5 : ∀ c, c ∈ [s1.heap.objs.size + 4, s1.heap.objs.size + 2, s1.heap.objs.size + 3, s1.heap.objs.size, s1.heap.objs.size + 1] → FpOk X pins H1 c := fun c hcm => by
        have e' : c = s1.heap.objs.size + 4 ∨ c = s1.heap.objs.size + 2 ∨ c = s1.heap.objs.size + 3 ∨ c = s1.heap.objs.size ∨ c = s1.heap.objs.size + 1 := by simpa using hcm
        have hle : s1.heap.objs.size ≤ c := by
          rcases e' with z | z | z | z | z
          · rw [z]; exact Nat.le_add_right _ _
          · rw [z]; exact Nat.le_add_right _ _
          · rw [z]; exact Nat.le_add_right _ _
          · rw [z]; exact Nat.le_refl _
          · rw [z]; exact Nat.le_add_right _ _
        exact I1.fpOk hle (I1.hok.fresh hle)
      obtain ⟨its, rv, p1, _⟩ := I1.list hqx
      obtain ⟨its2, rv2, p2, _⟩ := I1.tuple hqy
      obtain ⟨o2, ho2, _⟩ := id p2
      have la : a < s1.heap.objs.size := p1.lt
      have lb : b < s1.heap.objs.size := Heap.lt_size ho2
      refine zip_begins2 (begins_list a its.toArray) (begins_tuple b its2.toArray) p1.isList p2 fun h' hz hTI hTO h1 h2 hsz hk => wpAny_pyIter_zip hz ?_
      have I2 : Inv X pins σ H1 { s1 with heap := h' } := I1.kept (t' := s1.toks) hk
      generalize s1.heap.objs.size = N at *
      have S := zsep N a b la lb
      exact ⟨N + 4, [N + 4, N + 2, N + 3, N, N + 1], _, _, H1, rfl, I2, turn_zipLT S xs ys (Nat.ne_of_lt la) (Nat.ne_of_lt (Nat.lt_succ_of_lt lb)), ⟨Nat.zero_le _, Nat.zero_le _, hz, hTI, ⟨_, _, hTO⟩, ⟨_, h1, rfl, rfl⟩, ⟨_, h2, rfl, rfl⟩⟩, fresh5, q⟩
section
variable {X : Cx} {W : WX} {a b : Expr} {fa fb : WE} {pos p : Pos}
def iZipM (a b : WE) : WI := fun r m K x => a r m (fun u m1 => b r m1 (fun v m2 => match u, v with
  | .lst xs, .tup ys => K (zipD xs ys) (fun _ => True) m2
  | _, _ => False) x) x
theorem walk_zipLT {K : PySem.W.Frag} {a b : Addr} {xs ys : List V} : Walk (ItzLT K a b xs ys) (min xs.length ys.length) (fun H => SqL K H a xs ∧ SqT K H b ys) (YPair (fun i => xs[i]?) (fun i => ys[i]?)) := by
  refine ⟨fun i _ hi q => ⟨by omega, by omega, q.1, q.2⟩, fun _ q => ⟨by omega, q.1, q.2⟩, fun i H v H' _ q y => ?_⟩
  obtain ⟨T, x, z, h1, h2, h3, h4, h5⟩ := y
  exact ⟨T, x, z, h1, h2, h3, h4, h5⟩
theorem pid_zipM {elts : List Expr} {kk : Nat} {tpos : Pos} (hg : Gl X "zip") (hm : X.mg "zip" = none) (ha : PE X a (up X.K W fa)) (hb : PE X b (up X.K W fb)) (hs : starEach [a, b] X.env = (false, eval a X.env) :: starEach [b] X.env := by rfl) (hs2 : starEach [b] X.env = [(false, eval b X.env)] := by rfl) (hpl : (backTo pos (starEach [b] X.env)).any (·.1) = false := by rfl) :
    PI X (.Tuple elts kk tpos) (.Call (.Name "zip" p) [a, b] [] pos) (upI X.K W (iZipM fa fb)) := PI.imp (pi_zipLT hg hm (pa_cons ha (pa_cons hb pa_nil hs2) hs) hs hpl) fun σ H R ⟨B, r, m, R', x, er, S, h, t, tx⟩ => by
  refine ⟨B, r, m, _, x, er, S, h, fun B1 d m1 u H1 s1 S1 f1 p1 q1 => ?_, tx⟩
  refine ⟨B1, r, m1, _, x, er.mono s1, S1, q1, fun B2 e m2 v H2 s2 S2 f2 p2 q2 => ?_, tx.step s1 f1⟩
  have p1 := p1.mono s2
  cases p1 with
  | lst h1 h2 => cases p2 with
    | tup h3 h4 => exact ⟨_, _, _, _, rfl, .inl (.inl (S2.same _ _ h1)), sqT_mono S2.same h3, t B2 _ _ m2 H2 _ (s1.trans s2) S2 (f1.trans f2) (irp_zip walk_zipLT h2 h4 fun B' H m s S => ⟨.inl (.inl (S.same _ _ (s _ _ h1))), sqT_mono (s.trans S.same) h3⟩) q2⟩
    | _ => exact q2.elim
  | _ => exfalso; cases p2 <;> exact q2
def iEnumU (a : WE) : WI := fun r m K x => iEnumL a r m K x ∨ iEnumA a r m K x
theorem pid_enumU {elts : List Expr} {kk : Nat} {tpos : Pos} (hg : Gl X "enumerate") (hm : X.mg "enumerate" = none) (ha : PE X a (up X.K W fa)) (hs : starEach [a] X.env = [(false, eval a X.env)] := by rfl) : PI X (.Tuple elts kk tpos) (.Call (.Name "enumerate" p) [a] [] pos) (upI X.K W (iEnumU fa)) := by
  have p1 := pid_enum (elts := elts) (kk := kk) (tpos := tpos) (p := p) (pos := pos) hg hm ha hs
  have p2 := pid_enumA (elts := elts) (kk := kk) (tpos := tpos) (p := p) (pos := pos) hg hm ha hs
  refine ⟨fun pins s σ H R I h => ?_⟩
  obtain ⟨B, r, m, R', x, er, S, h, t, tx⟩ := h
  rcases h with h | h
  · exact p1.run pins s σ H R I ⟨B, r, m, R', x, er, S, h, t, tx⟩
  · exact p2.run pins s σ H R I ⟨B, r, m, R', x, er, S, h, t, tx⟩
end
end DL
end
section
set_option maxHeartbeats 0
namespace DL
open PySem
def wdsD (ws : List (List Nat)) : List D := ws.map fun cs => D.str ⟨cs.toArray⟩
def wordsB (dead : List Nat) (lo hi : Int) (d : D) : Bool := match d with
  | .tup xs => decide (lo ≤ (xs.length : Int)) && decide ((xs.length : Int) ≤ hi) && xs.all fun w => lineB dead w ⟨#[]⟩
  | _ => false
def wArg (m : Store) (d : D) : Prop := (tyN m d).isSome = true ∧ ∀ xs, d = .tup xs → xs.length ≤ 1000 ∧ ∀ w ∈ xs, (∀ m', (tyN m' w).isSome = true) ∧ ∀ t, w = .str t → t.length ≤ 1000
def ph_need_words (A : Ad) : FW := fun ds m R x => ∃ c dead dn d lo hi, ds = [machD c dead dn, d, .int lo, .int hi] ∧ wArg m d ∧ if wordsB dead lo hi d = true then R .non m else x A.xNoText m
def gapW (room gaps : Int) (n : Nat) : Int := room / gaps + if (n : Int) < room % gaps then 1 else 0
def sumW (ws : List (List Nat)) : Int := ((ws.map fun w => (w.length : Int))).sum
def tailK (room gaps : Int) : Nat → List (List Nat) → List D
  | _, [] => []
  | n, w :: ws => onD (gapW room gaps n) ++ keysOf w ++ tailK room gaps (n + 1) ws
def spreadK (wide : Int) : List (List Nat) → List D
  | [] => []
  | w :: ws => keysOf w ++ tailK (wide - 2 * sumW (w :: ws)) (max 1 (ws.length : Int)) 0 ws
def ph_spread_keys (A : Ad) : FW := fun ds m R _ => ∃ (wide : Int) (d : D) (w : List Nat) (ws : List (List Nat)), ds = [.int wide, d] ∧ (d = .tup (wdsD (w :: ws)) ∨ ∃ a, d = .ref a ∧ m a = some (.lst (wdsD (w :: ws)))) ∧ (∀ u ∈ w :: ws, u.length ≤ 40) ∧ ws.length ≤ 40 ∧ 0 ≤ wide - 2 * sumW (w :: ws) ∧ wide ≤ 999 ∧ R (.lst (spreadK wide (w :: ws))) m
def csW (d : D) : List Nat := match d with
  | .str s => s.cps.toList
  | _ => []
def spreadO (c : Int) (dead : List Nat) (l r t : D) : Nat ⊕ List D :=
  if marB (2 * c) l r = true then
    if wordsB dead 2 12 t = true then
      match l, r, t with
      | .int a, .int b, .tup xs => if b - a < 2 * (sumW (xs.map csW) + (xs.length : Int)) - 2 then .inl 8 else .inr (spreadK (b - a) (xs.map csW))
      | _, _, _ => .inl 6
    else .inl 6
  else .inl 3
def ph_spread (A : Ad) : FW := fun ds m R x => ∃ (dm l r t : D), ds = [dm, l, r, t] ∧ inMach A m dm x fun c dead dn => (tyN m l).isSome = true ∧ (tyN m r).isSome = true ∧ wArg m t ∧
  match spreadO c dead l r t with
  | .inl k => ok A.cls[k]? fun C => x C m
  | .inr ks => R (.tup ks) m
end DL
end
section
set_option maxHeartbeats 0
namespace DL
open PySem
def psi_need_words (A : Ad) : WS := wSeq (wIfS (wOr (wNot (wTest (wCallB wIsi (wCons (wVar 1) (wCons (wC (.ty "tuple")) (wNil)))))) (wNot (wTest (wChain wLe wLe (wVar 2) (wCallB wLen (wCons (wVar 1) (wNil))) (wVar 3))))) (wRaise A.xNoText) (wNext)) (wIfS (wNot (wTest (wCallB wAll (wCons (wLc false [4] (iSeq (wVar 1)) (gNm 4) (wYes) (wCall 3 (ph_is_line A) (wCons (wVar 0) (wCons (wVar 4) (wCons (wC (.str (PySem.Str.ofString ""))) (wNil)))))) (wNil))))) (wRaise A.xNoText) (wNext))
def psi_spread_keys_t4 (A : Ad) : WS := wRet (wFrz (wVar 4))
def psi_spread_keys_t3 (A : Ad) : WS := wSeq (wFor (iEnumU (wSl (wCut false) (wVar 1) (oSome (wC (.int 1))) (oNone))) (gTp [5, 6]) (wExp (wMt "list" wExtend (wVar 4) (wCons (wOp (wAdd false) (wCall 1 (ph_on A) (wCons (wOp (wAdd false) (wOp wDiv (wVar 2) (wVar 3)) (wCallB wInt (wCons (wOp wLt (wVar 5) (wOp wMod (wVar 2) (wVar 3))) (wNil)))) (wNil))) (wFrz (wCall 1 (ph_keys_of A) (wCons (wVar 6) (wNil))))) (wNil))))) (psi_spread_keys_t4 A)
def psi_spread_keys_t2 (A : Ad) : WS := wSeq (wSet 4 (wCall 1 (ph_keys_of A) (wCons (wOp wIx (wVar 1) (wC (.int 0))) (wNil)))) (psi_spread_keys_t3 A)
def psi_spread_keys_t1 (A : Ad) : WS := wSeq (wSet 3 (wCallB wMax2 (wCons (wC (.int 1)) (wCons (wOp wSub (wCallB wLen (wCons (wVar 1) (wNil))) (wC (.int 1))) (wNil))))) (psi_spread_keys_t2 A)
def psi_spread_keys (A : Ad) : WS := wSeq (wSet 2 (wOp wSub (wVar 0) (wOp (wMul false) (wC (.int 2)) (wCallB wSum (wCons (wLc false [6] (iSeq (wVar 1)) (gNm 6) (wYes) (wCallB wLen (wCons (wVar 6) (wNil)))) (wNil)))))) (psi_spread_keys_t1 A)
def psi_spread_t4 (A : Ad) : WS := wRet (wCallB wTuple (wCons (wCall 2 (ph_spread_keys A) (wCons (wOp wSub (wVar 2) (wVar 1)) (wCons (wVar 3) (wNil)))) (wNil)))
def psi_spread_t3 (A : Ad) : WS := wSeq (wIfS (wTest (wOp wLt (wOp wSub (wVar 2) (wVar 1)) (wOp wSub (wOp (wMul false) (wC (.int 2)) (wCallB wSum (wCons (wLc false [4] (iSeq (wVar 3)) (gNm 4) (wYes) (wOp (wAdd false) (wCallB wLen (wCons (wVar 4) (wNil))) (wC (.int 1)))) (wNil)))) (wC (.int 2))))) (wRaise A.xTooWide) (wNext)) (psi_spread_t4 A)
def psi_spread_t2 (A : Ad) : WS := wSeq (wExp (wCall 4 (ph_need_words A) (wCons (wVar 0) (wCons (wVar 3) (wCons (wC (.int 2)) (wCons (wC (.int 12)) (wNil))))))) (psi_spread_t3 A)
def psi_spread_t1 (A : Ad) : WS := wSeq (wExp (wCall 3 (ph_need_margins A) (wCons (wVar 0) (wCons (wVar 1) (wCons (wVar 2) (wNil)))))) (psi_spread_t2 A)
def psi_spread (A : Ad) : WS := wSeq (wExp (wCall 1 (ph_need_machine A) (wCons (wVar 0) (wNil)))) (psi_spread_t1 A)
end DL
end
section
set_option maxHeartbeats 0
namespace DL
open PySem
theorem wds_len (ws : List (List Nat)) : (wdsD ws).length = ws.length := by simp [wdsD]
theorem gapW_le {room gaps : Int} (h0 : 0 ≤ room) (h1 : 1 ≤ gaps) (n : Nat) : 0 ≤ gapW room gaps n ∧ gapW room gaps n ≤ room + 1 := by
  have a1 : 0 ≤ room / gaps := Int.ediv_nonneg h0 (by omega)
  have a2 : room / gaps ≤ room := Int.ediv_le_self _ h0
  unfold gapW
  split <;> omega
theorem onD_le (n : Int) (h : n ≤ 1001) : (onD n).length ≤ 600 := by
  simp only [onD, List.length_append, List.length_replicate]
  omega
theorem at0 (d : D) (l : List D) : atL (d :: l) 0 = some d := by
  simp [atL, ixL]
theorem cut_tl (d : D) (l : List D) : cutL (d :: l) (some 1) none = l := by
  have h : min 1 (l.length + 1) = 1 := by omega
  have h2 : (1 : Int).toNat = 1 := rfl
  simp only [cutL, sIxD, List.length_cons, h2, h, if_neg (show ¬ (1 : Int) < 0 by decide)]
  simp
variable {A : Ad} (hA : AdOk A)
include hA
theorem dt_need_words : ∀ ds m R x, ph_need_words A ds m R x → psi_need_words A (startD 5 ds) m (endD R x) := by
  rintro ds m R x ⟨c, dead, dn, d, lo, hi, rfl, ⟨ht, hs⟩, h⟩
  have L : LIM = 16777216 := rfl
  simp [psi_need_words, wIsi]
  obtain ⟨n, hn⟩ := Option.isSome_iff_exists.mp ht
  refine ok_iff.mpr ⟨n, hn, ?_⟩
  by_cases hd : ∃ xs, d = .tup xs
  · obtain ⟨xs, rfl⟩ := hd
    obtain ⟨hl, hw⟩ := hs xs rfl
    simp [tyN] at hn
    subst hn
    simp [isiN, wLen, asQ, wLe]
    by_cases h1 : lo ≤ (xs.length : Int)
    · by_cases h2 : (xs.length : Int) ≤ hi
      · simp [h1, h2, asI]
        refine lc_pure (G := fun _ => True) (fun w => some (.bl (lineB dead w ⟨#[]⟩))) trivial xs [] _ (by simp; omega) (fun w hwm K1 K0 hK => ?_) ?_
        · simp
          exact ⟨_, _, _, _, _, rfl, (hw w hwm).1 m, fun t e => by have := (hw w hwm).2 t e; omega, by decide, hK⟩
        · have ef : xs.filterMap (fun w => some (D.bl (lineB dead w ⟨#[]⟩))) = xs.map fun w => D.bl (lineB dead w ⟨#[]⟩) := List.filterMap_eq_map ▸ rfl
          rw [List.nil_append, ef]
          have e : (xs.map fun w => D.bl (lineB dead w ⟨#[]⟩)) = (xs.map fun w => lineB dead w ⟨#[]⟩).map .bl := by simp
          show wAll [.lst (xs.map fun w => D.bl (lineB dead w ⟨#[]⟩))] m _
          rw [e]
          refine all_lst ?_
          simp only [wordsB, h1, h2, decide_true, Bool.true_and] at h
          have e2 : ((xs.map fun w => lineB dead w ⟨#[]⟩).all id) = xs.all fun w => lineB dead w ⟨#[]⟩ := by simp [List.all_map, Function.comp]
          rw [e2]
          cases hb : xs.all fun w => lineB dead w ⟨#[]⟩ with
          | false => rw [hb] at h; simpa using h
          | true => rw [hb] at h; simpa using h
      · simp [h1, h2]
        simpa [wordsB, h1, h2] using h
    · simp [h1]
      simpa [wordsB, h1] using h
  · have e : wordsB dead lo hi d = false := by
      cases d <;> simp [wordsB]
      exact absurd ⟨_, rfl⟩ hd
    have e2 : isiN n "tuple" = false := by
      have : n ≠ "tuple" := by
        rintro rfl
        cases d with
        | tup xs => exact hd ⟨_, rfl⟩
        | ref a =>
          simp [tyN] at hn
          cases e : m a with
          | none => simp [e] at hn
          | some o => cases o <;> simp [e] at hn
        | _ => simp [tyN] at hn
      simp [isiN, this]
    simp [e2]
    rw [e] at h
    simpa using h
theorem sk_loop {wide room gaps : Int} {d : D} {m : Store} {R : KD} {x : XD} {ws : List (List Nat)} {ka : Addr} {acc : List D} {v5 v6 : Option D} (h0 : 0 ≤ room) (h1 : room ≤ 999) (g1 : 1 ≤ gaps) (g2 : gaps ≤ 1000) (hw : ∀ u ∈ ws, u.length ≤ 40) (hl : ws.length ≤ 40) (hacc : acc.length ≤ 200) (nka : m ka = none) (h : R (.lst (acc ++ tailK room gaps 0 ws)) m) :
    wForL (fun _ => True) (gTp [5, 6]) (wExp (wMt "list" wExtend (wVar 4) (wCons (wOp (wAdd false) (wCall 1 (ph_on A) (wCons (wOp (wAdd false) (wOp wDiv (wVar 2) (wVar 3)) (wCallB wInt (wCons (wOp wLt (wVar 5) (wOp wMod (wVar 2) (wVar 3))) (wNil)))) (wNil))) (wFrz (wCall 1 (ph_keys_of A) (wCons (wVar 6) (wNil))))) (wNil)))) (enumD 0 (wdsD ws)) [some (.int wide), some d, some (.int room), some (.int gaps), some (.ref ka), v5, v6] (sup m ka (.lst acc)) { (endD R x) with nx := fun r m' => psi_spread_keys_t4 A r m' (endD R x) } := by
  have L : LIM = 16777216 := rfl
  refine for_inv (fun ds r m' => ∃ (n : Nat) (rest : List (List Nat)) (ac : List D) (w5 w6 : Option D), ds = enumD n (wdsD rest) ∧ (∀ u ∈ rest, u.length ≤ 40) ∧ n + rest.length = ws.length ∧ ac.length ≤ 200 + 800 * n ∧ ac ++ tailK room gaps n rest = acc ++ tailK room gaps 0 ws ∧ r = [some (.int wide), some d, some (.int room), some (.int gaps), some (.ref ka), w5, w6] ∧ m' = sup m ka (.lst ac)) _ _ _ ⟨0, ws, acc, v5, v6, rfl, hw, by simp, by omega, rfl, rfl, rfl⟩ ?_ ?_
  · rintro q ds r m' ⟨n, rest, ac, w5, w6, e1, hw', hn, ha, hc, rfl, rfl⟩ P hP
    cases rest with
    | nil => cases e1
    | cons w rest =>
      simp only [wdsD, List.map_cons, enumD, List.cons.injEq] at e1
      obtain ⟨rfl, rfl⟩ := e1
      refine ⟨trivial, ?_⟩
      have hwl : w.length ≤ 40 := hw' w List.mem_cons_self
      have hlen : n < 41 := by simp at hn; omega
      simp [tyM, sup_same, wDiv, wMod, wLt, wInt]
      refine ⟨⟨by omega, by omega⟩, by omega, ?_⟩
      have gw : (room / gaps + if (n : Int) < room % gaps then 1 else 0) = gapW room gaps n := rfl
      have hgw := gapW_le h0 g1 n
      simp only [wAdd]
      refine ⟨_, rfl, by rw [gw]; omega, by rw [gw]; omega, ?_⟩
      refine ⟨⟨w.toArray⟩, rfl, by simp [PySem.Str.length]; omega, fun kb nkb => ?_⟩
      refine ⟨kb, rfl, _, sup_same, ?_⟩
      rw [sdel_sup nkb, gw]
      have k1 := keysOf_len w
      have k2 := onD_le (gapW room gaps n) (by omega)
      refine ⟨_, _, rfl, rfl, by simp; omega, ?_⟩
      simp [wExtend, sup_same, asL, sup_sup]
      refine ⟨by omega, hP _ _ ⟨n + 1, rest, ac ++ (onD (gapW room gaps n) ++ keysOf w), _, _, rfl, fun u hu => hw' u (List.mem_cons_of_mem _ hu), by simp at hn; omega, by simp; omega, ?_, rfl, by simp⟩⟩
      rw [← hc]; simp [tailK]
  · rintro r m' ⟨n, rest, ac, w5, w6, e1, hw', hn, ha, hc, rfl, rfl⟩
    have e3 : rest = [] := by cases rest with | nil => rfl | cons a b => cases e1
    subst e3
    refine ⟨trivial, ?_⟩
    simp [psi_spread_keys_t4]
    refine ⟨_, sup_same, ?_⟩
    rw [sdel_sup nka]
    simp [tailK] at hc
    rw [hc]
    exact h
theorem dt_spread_keys : ∀ ds m R x, ph_spread_keys A ds m R x → psi_spread_keys A (startD 7 ds) m (endD R x) := by
  rintro ds m R x ⟨wide, d, w, ws, rfl, hd, hw, hl, h0, h1, h⟩
  have L : LIM = 16777216 := rfl
  have hs : 0 ≤ sumW (w :: ws) := by
    unfold sumW
    generalize w :: ws = us
    induction us with
    | nil => simp
    | cons u us ih => simp only [List.map_cons, List.sum_cons]; omega
  have hwl : w.length ≤ 40 := hw w List.mem_cons_self
  have hlc : ∀ (G : Store → Prop) (K : List D → Store → Prop), G m → K ((w :: ws).map fun u => D.int (u.length : Nat)) m → wLcL G [6] (gNm 6) wYes (wCallB wLen (wCons (wVar 6) wNil)) (some (.int wide) :: some d :: none :: none :: none :: none :: [none]) (wdsD (w :: ws)) [] m K := by
    intro G K hG hK
    refine lc_map (fun cs : List Nat => D.str ⟨cs.toArray⟩) (fun u => D.int (u.length : Nat)) hG (w :: ws) [] K (by simp; omega) (fun u hu K1 hK1 => ?_) (by simpa using hK)
    have := hw u hu
    simp [wLen, PySem.Str.length]
    exact ⟨by omega, hK1⟩
  have hsum : ∃ ns : List Int, ((w :: ws).map fun u => D.int (u.length : Nat)) = ns.map .int ∧ ns.sum = sumW (w :: ws) := ⟨(w :: ws).map fun u => ((u.length : Nat) : Int), by simp, rfl⟩
  obtain ⟨ns, en, es⟩ := hsum
  have e1 : cutL (wdsD (w :: ws)) (some 1) none = wdsD ws := by
    exact cut_tl _ _
  have eg : (if (((w :: ws).length : Nat) : Int) - 1 > 1 then (((w :: ws).length : Nat) : Int) - 1 else 1) = max 1 (ws.length : Int) := by
    simp only [List.length_cons]; split <;> omega
  have kl := keysOf_len w
  have fin : ∀ ka, m ka = none → wForL (fun _ => True) (gTp [5, 6]) (wExp (wMt "list" wExtend (wVar 4) (wCons (wOp (wAdd false) (wCall 1 (ph_on A) (wCons (wOp (wAdd false) (wOp wDiv (wVar 2) (wVar 3)) (wCallB wInt (wCons (wOp wLt (wVar 5) (wOp wMod (wVar 2) (wVar 3))) (wNil)))) (wNil))) (wFrz (wCall 1 (ph_keys_of A) (wCons (wVar 6) (wNil))))) (wNil)))) (enumD 0 (wdsD ws)) [some (.int wide), some d, some (.int (wide - 2 * sumW (w :: ws))), some (.int (max 1 (ws.length : Int))), some (.ref ka), none, none] (sup m ka (.lst (keysOf w))) { (endD R x) with nx := fun r m' => psi_spread_keys_t4 A r m' (endD R x) } := fun ka nka => sk_loop hA h0 (by omega) (by omega) (by omega) (fun u hu => hw u (List.mem_cons_of_mem _ hu)) hl (by omega) nka h
  rcases hd with rfl | ⟨a, rfl, ha⟩
  · simp only [psi_spread_keys, psi_spread_keys_t1, psi_spread_keys_t2, psi_spread_keys_t3, start0, List.map_cons, List.map_nil, List.length_cons, List.length_nil, List.cons_append, List.nil_append, s_seq, s_set, e_op, e_var, get0, getS, ok_some, e_c, e_callB, e_cons, e_nil, e_lc, e_seqI, asI]
    refine hlc _ _ trivial ?_
    simp only [e_nwF, wSum, asL, wSub, wMul]
    refine ⟨ns, by rw [en], ?_⟩
    rw [es]
    simp only [wLen, asQ, ok_some, wds_len, put0, putS, get0, getS, e_op, e_var, e_c, e_callB, e_cons, e_nil, wSub, wMax2, eg, wIx, e_call, e_sl, e_oSome, e_oNone, s_seq, s_set, s_for, wCut, e1, iEnumU, iEnumA, iEnumL]
    refine ⟨Or.inl (by omega), ok_iff.mpr ⟨D.str ⟨w.toArray⟩, at0 _ _, ?_⟩⟩
    refine ⟨rfl, ⟨w.toArray⟩, rfl, by simp [PySem.Str.length]; omega, fun ka nka => ?_⟩
    exact Or.inr (fin ka nka)
  · have hl := hlc (fun m' => m' a = some (.lst (wdsD (w :: ws))))
    simp only [psi_spread_keys, psi_spread_keys_t1, psi_spread_keys_t2, psi_spread_keys_t3, start0, List.map_cons, List.map_nil, List.length_cons, List.length_nil, List.cons_append, List.nil_append, s_seq, s_set, e_op, e_var, get0, getS, ok_some, e_c, e_callB, e_cons, e_nil, e_lc, e_seqI, asI, ha]
    refine hl _ ha ?_
    simp only [e_nwF, wSum, asL, wSub, wMul]
    refine ⟨ns, by rw [en], ?_⟩
    rw [es]
    simp only [wLen, asQ, asL, ha, ok_some, wds_len, put0, putS, get0, getS, e_op, e_var, e_c, e_callB, e_cons, e_nil, wSub, wMax2, eg, wIx, e_call, e_sl, e_oSome, e_oNone, s_seq, s_set, s_for]
    refine ⟨Or.inl (by omega), ok_iff.mpr ⟨D.str ⟨w.toArray⟩, at0 _ _, ?_⟩⟩
    refine ⟨rfl, ⟨w.toArray⟩, rfl, by simp [PySem.Str.length]; omega, fun ka nka => ?_⟩
    have hne : a ≠ ka := by rintro rfl; rw [nka] at ha; cases ha
    refine Or.inl ?_
    simp only [iEnumL, e_sl, e_oSome, e_oNone, put0, putS, e_var, get0, getS, ok_some, e_c, wCut, asL, sup_ne hne, ha, e1, e_nwF]
    exact fin ka nka
theorem dt_spread : ∀ ds m R x, ph_spread A ds m R x → psi_spread A (startD 5 ds) m (endD R x) := by
  rintro ds m R x ⟨dm, l, r, t, rfl, h⟩
  have L : LIM = 16777216 := rfl
  simp [psi_spread]
  refine ⟨dm, rfl, h.imp fun c dead dn e hM hR => ?_⟩
  subst e
  clear h
  obtain ⟨hl, hr, ht, h⟩ := hR
  simp [psi_spread_t1, psi_spread_t2]
  refine ⟨_, _, _, _, _, rfl, hM, hl, hr, ?_⟩
  cases h1 : marB (2 * c) l r with
  | false => simp [spreadO, h1, Ad.cls] at h ⊢; exact h
  | true =>
    simp only [if_true]
    refine ⟨_, _, _, _, _, _, rfl, ht, ?_⟩
    cases h2 : wordsB dead 2 12 t with
    | false => simp [spreadO, h1, h2, Ad.cls] at h ⊢; exact h
    | true =>
      obtain ⟨a, b, rfl, rfl, ha, hb, hab⟩ : ∃ a b, l = .int a ∧ r = .int b ∧ 0 ≤ a ∧ b ≤ 2 * c ∧ a < b := by
        cases l <;> cases r <;> simp [marB, wholeB] at h1
        rename_i a b
        exact ⟨a, b, rfl, rfl, h1.1.1.1, h1.1.2.2, h1.2⟩
      obtain ⟨ws, rfl, hn2, hn12, hw⟩ : ∃ ws : List (List Nat), t = .tup (wdsD ws) ∧ 2 ≤ ws.length ∧ ws.length ≤ 12 ∧ ∀ u ∈ ws, 1 ≤ u.length ∧ u.length ≤ 40 := by
        cases t <;> simp [wordsB] at h2
        rename_i xs
        obtain ⟨⟨g1, g2⟩, g3⟩ := h2
        have : ∀ xs : List D, (∀ w ∈ xs, lineB dead w ⟨#[]⟩ = true) → ∃ ws : List (List Nat), xs = wdsD ws ∧ ∀ u ∈ ws, 1 ≤ u.length ∧ u.length ≤ 40 := by
          intro xs
          induction xs with
          | nil => exact fun _ => ⟨[], rfl, by simp⟩
          | cons w xs ih =>
            intro hh
            obtain ⟨ws, rfl, hw⟩ := ih fun w hw => hh w (List.mem_cons_of_mem _ hw)
            have h3 := hh w List.mem_cons_self
            cases w <;> simp [lineB] at h3
            rename_i s
            have el : s.cps.toList.length = s.length := by simp [PySem.Str.length]
            refine ⟨s.cps.toList :: ws, by simp [wdsD], ?_⟩
            rintro u hu
            rcases List.mem_cons.mp hu with rfl | hu
            · omega
            · exact hw u hu
        obtain ⟨ws, rfl, hw⟩ := this xs g3
        rw [wds_len] at g1 g2
        exact ⟨ws, rfl, by omega, by omega, hw⟩
      have ec : (wdsD ws).map csW = ws := by simp [wdsD, csW, Function.comp_def]
      have hc := hM.hi
      simp only [spreadO, h1, h2, if_true, ec, wds_len] at h
      simp only [if_true, psi_spread_t3, s_seq, s_if, e_test, e_op, e_var, get0, getS, ok_some, wSub, wMul, wLt, e_c, e_callB, e_cons, e_nil, e_lc, e_seqI, asI]
      refine lc_map (fun cs : List Nat => D.str ⟨cs.toArray⟩) (fun u => D.int ((u.length : Nat) + 1)) trivial ws [] _ (by simp; omega) (fun u hu K1 hK1 => ?_) ?_
      · have := hw u hu
        simp [wLen, PySem.Str.length, wAdd]
        exact ⟨by omega, hK1⟩
      · simp only [List.nil_append, e_nwF, wSum, asL]
        refine ⟨ws.map fun u => ((u.length : Nat) : Int) + 1, by simp, ?_⟩
        have es : (ws.map fun u => ((u.length : Nat) : Int) + 1).sum = sumW ws + (ws.length : Int) := by
          unfold sumW
          clear h hw hn2 hn12 ht h2 ec
          induction ws with
          | nil => simp
          | cons u us ih => simp only [List.map_cons, List.sum_cons, List.length_cons, ih]; omega
        rw [es]
        refine ⟨Or.inl (by omega), ?_⟩
        by_cases h3 : b - a < 2 * (sumW ws + (ws.length : Int)) - 2
        · simp [h3, Ad.cls] at h ⊢
          exact h
        · simp only [h3, if_false, decide_false, Bool.false_eq_true] at h ⊢
          cases ws with
          | nil => simp at hn2
          | cons w ws =>
            simp only [List.length_cons] at hn2 hn12 h3
            simp [psi_spread_t4, wSub]
            refine ⟨b - a, _, w, ws, rfl, Or.inl rfl, fun u hu => (hw u hu).2, by omega, by omega, by omega, ?_⟩
            simp [wTuple, asQ, asL]
            exact h
end DL
end
section
set_option maxHeartbeats 0
namespace DL
open PySem
def psi__law_marks (A : Ad) : WS := wSeq (wSet 1 (wCallB (wSortD false) (wCons (wLc false [2] (iSeq (wOp wDGet (wVar 0) (wC (.str (PySem.Str.ofString "marks"))))) (gNm 2) (wYes) (wTup (wCons (wOp wIx (wVar 2) (wC (.int 1))) (wCons (wOp wIx (wVar 2) (wC (.int 2))) (wCons (wOp wIx (wVar 2) (wC (.int 0))) (wCons (wVar 2) (wNil))))))) (wNil)))) (wRet (wLc false [3, 4, 5, 2] (iSeq (wVar 1)) (gTp [3, 4, 5, 2]) (wYes) (wVar 2)))
end DL
end
section
set_option maxHeartbeats 0
namespace DL
open PySem
def psi__law_new (A : Ad) : WS := wSeq (wSet 2 (wOp (wMul false) (wC (.int 2)) (wOp wIx (wVar 0) (wC (.int 0))))) (wSeq (wSet 3 (wDisp [(wC (.str (PySem.Str.ofString "machine")), wVar 0), (wC (.str (PySem.Str.ofString "end")), wVar 2), (wC (.str (PySem.Str.ofString "row")), wC (.int 0)), (wC (.str (PySem.Str.ofString "place")), wC (.int 0)), (wC (.str (PySem.Str.ofString "low")), wC (.int 0)), (wC (.str (PySem.Str.ofString "high")), wVar 2), (wC (.str (PySem.Str.ofString "tabs")), wCallB (wList true) (wCons (wVar 1) (wNil)))])) (wSeq (wExp (wMt "dict" wUpdate (wVar 3) (wCons (wDisp [(wC (.str (PySem.Str.ofString "red")), wC (.bl false)), (wC (.str (PySem.Str.ofString "caps")), wC (.bl false)), (wC (.str (PySem.Str.ofString "free")), wC (.bl false)), (wC (.str (PySem.Str.ofString "marks")), wLst true (wNil)), (wC (.str (PySem.Str.ofString "rings")), wLst true (wNil)), (wC (.str (PySem.Str.ofString "many")), wC (.int 0))]) (wNil)))) (wRet (wFgt (wVar 3)))))
def psi__law_shut (A : Ad) : WS := wRet (wOrV (wOp wGt (wVar 1) (wOp wDGet (wVar 0) (wC (.str (PySem.Str.ofString "end"))))) (wAndV (wNotV (wOp wDGet (wVar 0) (wC (.str (PySem.Str.ofString "free"))))) (wOp wGt (wVar 1) (wOp wDGet (wVar 0) (wC (.str (PySem.Str.ofString "high")))))))
def psi__law_go (A : Ad) : WS := wSeq (wSet 2 (wOp wSub (wOp wDGet (wVar 0) (wC (.str (PySem.Str.ofString "high")))) (wC (.int 10)))) (wSeq (wIfS (wAnd (wTest (wOp wLt (wOp wDGet (wVar 0) (wC (.str (PySem.Str.ofString "place")))) (wVar 2))) (wTest (wOp wGe (wVar 1) (wVar 2)))) (wExp (wMt "list" wAppend (wOp wDGet (wVar 0) (wC (.str (PySem.Str.ofString "rings")))) (wCons (wOp wDGet (wVar 0) (wC (.str (PySem.Str.ofString "many")))) (wNil)))) (wNext)) (wSeq (wDPut (wVar 0) (wC (.str (PySem.Str.ofString "place"))) (wVar 1)) (wRet (wTup (wCons (wC (.str (PySem.Str.ofString "moved"))) (wCons (wOp wDGet (wVar 0) (wC (.str (PySem.Str.ofString "row")))) (wCons (wVar 1) (wNil))))))))
def psi__law_as (A : Ad) : WS := wRet (wIf (wTest (wOp wDGet (wVar 0) (wC (.str (PySem.Str.ofString "caps"))))) (wMt "str" wUpper (wVar 1) wNil) (wVar 1))
def psi__law_ink_t7 (A : Ad) : WS := wRet (wVar 6)
def psi__law_ink_t6 (A : Ad) : WS := wSeq (wIfS (wTest (wOp wNotIn (wVar 2) (wOp wIx (wOp wDGet (wVar 0) (wC (.str (PySem.Str.ofString "machine")))) (wC (.int 1))))) (wExp (wCall 2 (ph__law_go A) (wCons (wVar 0) (wCons (wOp (wAdd false) (wOp wDGet (wVar 0) (wC (.str (PySem.Str.ofString "place")))) (wC (.int 2))) (wNil))))) (wNext)) (psi__law_ink_t7 A)
def psi__law_ink_t5 (A : Ad) : WS := wSeq (wIfS (wTest (wOp wEq (wVar 1) (wC (.str (PySem.Str.ofString "sign"))))) (wExp (wMt "list" wAppend (wOp wDGet (wVar 0) (wC (.str (PySem.Str.ofString "marks")))) (wCons (wOp (wAdd false) (wTup (wCons (wOp wDGet (wVar 0) (wC (.str (PySem.Str.ofString "many")))) (wNil))) (wVar 4)) (wNil)))) (wIfS (wTest (wOp wEq (wVar 5) (wLst false (wNil)))) (wSet 6 (wOp (wAdd false) (wTup (wCons (wC (.str (PySem.Str.ofString "nothing"))) (wNil))) (wVar 3))) (wSeq (wExp (wMt "list" wRemD (wOp wDGet (wVar 0) (wC (.str (PySem.Str.ofString "marks")))) (wCons (wOp wIx (wVar 5) (wUn wNeg (wC (.int 1)))) (wNil)))) (wSet 6 (wOp (wAdd false) (wTup (wCons (wC (.str (PySem.Str.ofString "lifted"))) (wNil))) (wSl (wCut false) (wOp wIx (wVar 5) (wUn wNeg (wC (.int 1)))) (oSome (wC (.int 1))) (oNone))))))) (psi__law_ink_t6 A)
def psi__law_ink_t4 (A : Ad) : WS := wSeq (wSet 6 (wOp (wAdd false) (wTup (wCons (wC (.str (PySem.Str.ofString "struck"))) (wNil))) (wVar 4))) (psi__law_ink_t5 A)
def psi__law_ink_t3 (A : Ad) : WS := wSeq (wSet 5 (wLc false [7] (iSeq (wOp wDGet (wVar 0) (wC (.str (PySem.Str.ofString "marks"))))) (gNm 7) (wTest (wOp wEq (wSl (wCut false) (wVar 7) (oSome (wC (.int 1))) (oSome (wC (.int 4)))) (wSl (wCut false) (wVar 4) (oNone) (oSome (wC (.int 3)))))) (wVar 7))) (psi__law_ink_t4 A)
def psi__law_ink_t2 (A : Ad) : WS := wSeq (wSet 4 (wOp (wAdd false) (wVar 3) (wTup (wCons (wCall 2 (ph__law_as A) (wCons (wVar 0) (wCons (wVar 2) (wNil)))) (wCons (wIf (wTest (wOp wDGet (wVar 0) (wC (.str (PySem.Str.ofString "red"))))) (wC (.str (PySem.Str.ofString "red"))) (wC (.str (PySem.Str.ofString "black")))) (wNil)))))) (psi__law_ink_t3 A)
def psi__law_ink_t1 (A : Ad) : WS := wSeq (wSet 3 (wTup (wCons (wOp wDGet (wVar 0) (wC (.str (PySem.Str.ofString "row")))) (wCons (wOp wDGet (wVar 0) (wC (.str (PySem.Str.ofString "place")))) (wNil))))) (psi__law_ink_t2 A)
def psi__law_ink (A : Ad) : WS := wSeq (wIfS (wTest (wCall 2 (ph__law_shut A) (wCons (wVar 0) (wCons (wOp (wAdd false) (wOp wDGet (wVar 0) (wC (.str (PySem.Str.ofString "place")))) (wC (.int 2))) (wNil))))) (wRet (wTup (wCons (wC (.str (PySem.Str.ofString "locked"))) (wNil)))) (wNext)) (psi__law_ink_t1 A)
def psi__law_turn_t2 (A : Ad) : WS := wRet (wTup (wCons (wC (.str (PySem.Str.ofString "done"))) (wNil)))
def psi__law_turn_t1 (A : Ad) : WS := wSeq (wIfS (wAnd (wTest (wOp wEq (wVar 1) (wC (.str (PySem.Str.ofString "left"))))) (wTest (wOp wLt (wVar 2) (wOp wDGet (wVar 0) (wC (.str (PySem.Str.ofString "high"))))))) (wDPut (wVar 0) (wC (.str (PySem.Str.ofString "low"))) (wVar 2)) (wIfS (wAnd (wTest (wOp wEq (wVar 1) (wC (.str (PySem.Str.ofString "right"))))) (wTest (wOp wGt (wVar 2) (wOp wDGet (wVar 0) (wC (.str (PySem.Str.ofString "low"))))))) (wDPut (wVar 0) (wC (.str (PySem.Str.ofString "high"))) (wVar 2)) (wIfS (wTest (wOp wEq (wVar 1) (wC (.str (PySem.Str.ofString "set"))))) (wDPut (wVar 0) (wC (.str (PySem.Str.ofString "tabs"))) (wOp (wAdd true) (wLc false [4] (iSeq (wOp wDGet (wVar 0) (wC (.str (PySem.Str.ofString "tabs"))))) (gNm 4) (wTest (wOp wNe (wVar 4) (wVar 2))) (wVar 4)) (wLst false (wCons (wVar 2) (wNil))))) (wIfS (wAnd (wTest (wOp wEq (wVar 1) (wC (.str (PySem.Str.ofString "clear"))))) (wTest (wOp wIn (wVar 2) (wOp wDGet (wVar 0) (wC (.str (PySem.Str.ofString "tabs"))))))) (wDPut (wVar 0) (wC (.str (PySem.Str.ofString "tabs"))) (wLc true [4] (iSeq (wOp wDGet (wVar 0) (wC (.str (PySem.Str.ofString "tabs"))))) (gNm 4) (wTest (wOp wNe (wVar 4) (wVar 2))) (wVar 4))) (wIfS (wTest (wOp wIn (wVar 1) (wTup (wCons (wC (.str (PySem.Str.ofString "left"))) (wCons (wC (.str (PySem.Str.ofString "right"))) (wCons (wC (.str (PySem.Str.ofString "clear"))) (wNil))))))) (wRet (wTup (wCons (wC (.str (PySem.Str.ofString "locked"))) (wNil)))) (wIfS (wTest (wOp wEq (wVar 1) (wC (.str (PySem.Str.ofString "all"))))) (wDPut (wVar 0) (wC (.str (PySem.Str.ofString "tabs"))) (wLst true (wNil))) (wSeq (wSet 3 (wDispGet [(wC (.str (PySem.Str.ofString "free")), wC (.str (PySem.Str.ofString "free"))), (wC (.str (PySem.Str.ofString "ribbon")), wC (.str (PySem.Str.ofString "red"))), (wC (.str (PySem.Str.ofString "caps")), wC (.str (PySem.Str.ofString "caps")))] (wVar 1))) (wDPut (wVar 0) (wVar 3) (wOrV (wOp wEq (wVar 1) (wC (.str (PySem.Str.ofString "free")))) (wNotV (wOp wDGet (wVar 0) (wVar 3)))))))))))) (psi__law_turn_t2 A)
def psi__law_turn (A : Ad) : WS := wSeq (wSet 2 (wOp wDGet (wVar 0) (wC (.str (PySem.Str.ofString "place"))))) (psi__law_turn_t1 A)
def psi__law_step_t5 (A : Ad) : WS := wRet (wIf (wTest (wCall 2 (ph__law_shut A) (wCons (wVar 0) (wCons (wVar 4) (wNil))))) (wTup (wCons (wC (.str (PySem.Str.ofString "locked"))) (wNil))) (wCall 2 (ph__law_go A) (wCons (wVar 0) (wCons (wVar 4) (wNil)))))
def psi__law_step_t4 (A : Ad) : WS := wSeq (wIfS (wTest (wOp wEq (wVar 1) (wC (.str (PySem.Str.ofString "tab"))))) (wSet 4 (wCallB wMinL (wCons (wOp (wAdd false) (wLc false [5] (iSeq (wOp wDGet (wVar 0) (wC (.str (PySem.Str.ofString "tabs"))))) (gNm 5) (wTest (wOp wGt (wVar 5) (wVar 2))) (wVar 5)) (wLst false (wCons (wC (.int 999)) (wNil)))) (wNil)))) (wNext)) (psi__law_step_t5 A)
def psi__law_step_t3 (A : Ad) : WS := wSeq (wSet 4 (wOp (wAdd false) (wVar 2) (wIf (wTest (wOp wEq (wVar 1) (wC (.str (PySem.Str.ofString "blank"))))) (wC (.int 2)) (wC (.int 1))))) (psi__law_step_t4 A)
def psi__law_step_t2 (A : Ad) : WS := wSeq (wIfS (wTest (wOp wIn (wVar 1) (wTup (wCons (wC (.str (PySem.Str.ofString "return"))) (wCons (wC (.str (PySem.Str.ofString "up"))) (wCons (wC (.str (PySem.Str.ofString "down"))) (wNil))))))) (wSeq (wSet 3 (wOp (wAdd false) (wOp wDGet (wVar 0) (wC (.str (PySem.Str.ofString "row")))) (wDispGet [(wC (.str (PySem.Str.ofString "return")), wOp wIx (wOp wDGet (wVar 0) (wC (.str (PySem.Str.ofString "machine")))) (wC (.int 2))), (wC (.str (PySem.Str.ofString "up")), wUn wNeg (wC (.int 1))), (wC (.str (PySem.Str.ofString "down")), wC (.int 1))] (wVar 1)))) (wSeq (wIfS (wOr (wTest (wOp wLt (wVar 3) (wC (.int 0)))) (wTest (wOp wGt (wVar 3) (wC (.int 60))))) (wRet (wTup (wCons (wC (.str (PySem.Str.ofString "locked"))) (wNil)))) (wNext)) (wSeq (wDPut (wVar 0) (wC (.str (PySem.Str.ofString "row"))) (wVar 3)) (wSeq (wIfS (wTest (wOp wEq (wVar 1) (wC (.str (PySem.Str.ofString "return"))))) (wSeq (wDPut (wVar 0) (wC (.str (PySem.Str.ofString "place"))) (wOp wDGet (wVar 0) (wC (.str (PySem.Str.ofString "low"))))) (wDPut (wVar 0) (wC (.str (PySem.Str.ofString "free"))) (wC (.bl false)))) (wNext)) (wRet (wTup (wCons (wC (.str (PySem.Str.ofString "moved"))) (wCons (wVar 3) (wCons (wOp wDGet (wVar 0) (wC (.str (PySem.Str.ofString "place")))) (wNil)))))))))) (wNext)) (psi__law_step_t3 A)
def psi__law_step_t1 (A : Ad) : WS := wSeq (wIfS (wTest (wOp wEq (wVar 1) (wC (.str (PySem.Str.ofString "back"))))) (wSeq (wIfS (wOr (wTest (wOp wLt (wVar 2) (wC (.int 2)))) (wAnd (wNot (wTest (wOp wDGet (wVar 0) (wC (.str (PySem.Str.ofString "free")))))) (wTest (wChain wGe wGt (wVar 2) (wOp wDGet (wVar 0) (wC (.str (PySem.Str.ofString "low")))) (wOp wSub (wVar 2) (wC (.int 2))))))) (wRet (wTup (wCons (wC (.str (PySem.Str.ofString "locked"))) (wNil)))) (wNext)) (wSeq (wDPut (wVar 0) (wC (.str (PySem.Str.ofString "place"))) (wOp wSub (wVar 2) (wC (.int 2)))) (wRet (wTup (wCons (wC (.str (PySem.Str.ofString "moved"))) (wCons (wOp wDGet (wVar 0) (wC (.str (PySem.Str.ofString "row")))) (wCons (wOp wSub (wVar 2) (wC (.int 2))) (wNil)))))))) (wNext)) (psi__law_step_t2 A)
def psi__law_step (A : Ad) : WS := wSeq (wSet 2 (wOp wDGet (wVar 0) (wC (.str (PySem.Str.ofString "place"))))) (psi__law_step_t1 A)
def psi__law_press_t2 (A : Ad) : WS := wRet (wVar 2)
def psi__law_press_t1 (A : Ad) : WS := wSeq (wDPut (wVar 0) (wC (.str (PySem.Str.ofString "many"))) (wOp (wAdd false) (wOp wDGet (wVar 0) (wC (.str (PySem.Str.ofString "many")))) (wC (.int 1)))) (psi__law_press_t2 A)
def psi__law_press (A : Ad) : WS := wSeq (wIfS (wTest (wOp wIn (wOp wIx (wVar 1) (wC (.int 0))) (wTup (wCons (wC (.str (PySem.Str.ofString "sign"))) (wCons (wC (.str (PySem.Str.ofString "lift"))) (wNil)))))) (wSet 2 (wCall 3 (ph__law_ink A) (wCons (wVar 0) (wCons (wOp wIx (wVar 1) (wC (.int 0))) (wCons (wOp wIx (wVar 1) (wC (.int 1))) (wNil)))))) (wIfS (wTest (wOp wIn (wOp wIx (wVar 1) (wC (.int 0))) (wTup (wCons (wC (.str (PySem.Str.ofString "left"))) (wCons (wC (.str (PySem.Str.ofString "right"))) (wCons (wC (.str (PySem.Str.ofString "set"))) (wCons (wC (.str (PySem.Str.ofString "clear"))) (wCons (wC (.str (PySem.Str.ofString "all"))) (wCons (wC (.str (PySem.Str.ofString "free"))) (wCons (wC (.str (PySem.Str.ofString "ribbon"))) (wCons (wC (.str (PySem.Str.ofString "caps"))) (wNil)))))))))))) (wSet 2 (wCall 2 (ph__law_turn A) (wCons (wVar 0) (wCons (wOp wIx (wVar 1) (wC (.int 0))) (wNil))))) (wSet 2 (wCall 2 (ph__law_step A) (wCons (wVar 0) (wCons (wOp wIx (wVar 1) (wC (.int 0))) (wNil))))))) (psi__law_press_t1 A)
def psi__law_worked_t2 (A : Ad) : WS := wRet (wTup (wCons (wVar 3) (wCons (wVar 4) (wNil))))
def psi__law_worked_t1 (A : Ad) : WS := wSeq (wSet 4 (wLc false [5] (iSeq (wVar 2)) (gNm 5) (wYes) (wCall 2 (ph__law_press A) (wCons (wVar 3) (wCons (wVar 5) (wNil)))))) (psi__law_worked_t2 A)
def psi__law_worked (A : Ad) : WS := wSeq (wSet 3 (wCall 2 (ph__law_new A) (wCons (wVar 0) (wCons (wVar 1) (wNil))))) (psi__law_worked_t1 A)
end DL
end
section
set_option maxHeartbeats 0
namespace DL
open PySem
section
variable {m : Store} {w ta ma ra : Addr} {s : LW} (hw : m w = some (.dct (wkD s ta ma ra))) (R : KD)
include hw
theorem gt_of {n : String} {v : D} (hk : lookK (wkD s ta ma ra) (key n) = some v) : wDGet (.ref w) (.str (PySem.Str.ofString n)) m R = R v m := by
  apply propext
  constructor
  · rintro ⟨kvs, e, h⟩
    rw [hw] at e
    cases e
    have e2 : keyD (.str (PySem.Str.ofString n)) = some (key n) := rfl
    rw [e2] at h
    simp [hk] at h
    exact h
  · intro h
    refine ⟨_, hw, ?_⟩
    have e2 : keyD (.str (PySem.Str.ofString n)) = some (key n) := rfl
    rw [e2]
    simp [hk]
    exact h
theorem gt_machine : wDGet (.ref w) (.str (PySem.Str.ofString "machine")) m R = R (machD s.c s.dead s.dn) m := gt_of hw R (by simp [wkD, lookK, key])
theorem gt_end : wDGet (.ref w) (.str (PySem.Str.ofString "end")) m R = R (.int (2 * s.c)) m := gt_of hw R (by simp [wkD, lookK, key])
theorem gt_row : wDGet (.ref w) (.str (PySem.Str.ofString "row")) m R = R (.int s.row) m := gt_of hw R (by simp [wkD, lookK, key])
theorem gt_place : wDGet (.ref w) (.str (PySem.Str.ofString "place")) m R = R (.int s.place) m := gt_of hw R (by simp [wkD, lookK, key])
theorem gt_low : wDGet (.ref w) (.str (PySem.Str.ofString "low")) m R = R (.int s.low) m := gt_of hw R (by simp [wkD, lookK, key])
theorem gt_high : wDGet (.ref w) (.str (PySem.Str.ofString "high")) m R = R (.int s.high) m := gt_of hw R (by simp [wkD, lookK, key])
theorem gt_tabs : wDGet (.ref w) (.str (PySem.Str.ofString "tabs")) m R = R (.ref ta) m := gt_of hw R (by simp [wkD, lookK, key])
theorem gt_red : wDGet (.ref w) (.str (PySem.Str.ofString "red")) m R = R (.bl s.red) m := gt_of hw R (by simp [wkD, lookK, key])
theorem gt_caps : wDGet (.ref w) (.str (PySem.Str.ofString "caps")) m R = R (.bl s.caps) m := gt_of hw R (by simp [wkD, lookK, key])
theorem gt_free : wDGet (.ref w) (.str (PySem.Str.ofString "free")) m R = R (.bl s.free) m := gt_of hw R (by simp [wkD, lookK, key])
theorem gt_marks : wDGet (.ref w) (.str (PySem.Str.ofString "marks")) m R = R (.ref ma) m := gt_of hw R (by simp [wkD, lookK, key])
theorem gt_rings : wDGet (.ref w) (.str (PySem.Str.ofString "rings")) m R = R (.ref ra) m := gt_of hw R (by simp [wkD, lookK, key])
theorem gt_many : wDGet (.ref w) (.str (PySem.Str.ofString "many")) m R = R (.int s.many) m := gt_of hw R (by simp [wkD, lookK, key])
end
section
variable {m0 m : Store} {w ta ma ra : Addr} {s : LW}
theorem wk_len (s : LW) (ta ma ra : Addr) : (wkD s ta ma ra).length < LIM := by show 13 < LIM; decide
theorem Sub.sup {a : Addr} {o : MO} (h : Sub m0 m) (n : m0 a = none) : Sub m0 (sup m a o) := fun b u e => by
  rw [sup_ne (ne_sto e n)]; exact h b u e
theorem WkAt.wt (W : WkAt m0 w m s ta ma ra) : w ≠ ta := by intro e; have := W.hw; rw [e, W.ht] at this; cases this
theorem WkAt.wm (W : WkAt m0 w m s ta ma ra) : w ≠ ma := by intro e; have := W.hw; rw [e, W.hm] at this; cases this
theorem WkAt.wr (W : WkAt m0 w m s ta ma ra) : w ≠ ra := by intro e; have := W.hw; rw [e, W.hr] at this; cases this
theorem WkAt.put (W : WkAt m0 w m s ta ma ra) {s' : LW} (h1 : s'.tabs = s.tabs) (h2 : s'.marks = s.marks) (h3 : s'.rings = s.rings) : WkAt m0 w (sup m w (.dct (wkD s' ta ma ra))) s' ta ma ra :=
  ⟨W.sub.sup W.nw, W.nw, W.nt, W.nm, W.nr, sup_same, by rw [sup_ne W.wt.symm, h1]; exact W.ht, by rw [sup_ne W.wm.symm, h2]; exact W.hm, by rw [sup_ne W.wr.symm, h3]; exact W.hr, W.tm, W.tr, W.mr⟩
theorem WkAt.rings (W : WkAt m0 w m s ta ma ra) (r : List Int) : WkAt m0 w (sup m ra (.lst (r.map .int))) { s with rings := r } ta ma ra :=
  ⟨W.sub.sup W.nr, W.nw, W.nt, W.nm, W.nr, by rw [sup_ne W.wr]; exact W.hw, by rw [sup_ne W.tr]; exact W.ht, by rw [sup_ne W.mr]; exact W.hm, sup_same, W.tm, W.tr, W.mr⟩
theorem WkAt.marks (W : WkAt m0 w m s ta ma ra) (r : List Mk) : WkAt m0 w (sup m ma (.lst (r.map mkD))) { s with marks := r } ta ma ra :=
  ⟨W.sub.sup W.nm, W.nw, W.nt, W.nm, W.nr, by rw [sup_ne W.wm]; exact W.hw, by rw [sup_ne W.tm]; exact W.ht, sup_same, by rw [sup_ne W.mr.symm]; exact W.hr, W.tm, W.tr, W.mr⟩
theorem sup_none {a b : Addr} {o : MO} : sup m a o b = none ↔ b ≠ a ∧ m b = none := by
  by_cases h : b = a
  · subst h; simp [sup_same]
  · rw [sup_ne h]; simp [h]
theorem Sub.none {a : Addr} (h : Sub m0 m) (n : m a = none) : m0 a = none := by
  cases e : m0 a with
  | none => rfl
  | some o => rw [h a o e] at n; cases n
theorem WkAt.tabs (W : WkAt m0 w m s ta ma ra) {a : Addr} (na : m a = none) (r : List Int) : WkAt m0 w (sup (sup m a (.lst (r.map .int))) w (.dct (wkD { s with tabs := r } a ma ra))) { s with tabs := r } a ma ra := by
  have wa : w ≠ a := ne_sto W.hw na
  have ma' : ma ≠ a := ne_sto W.hm na
  have ra' : ra ≠ a := ne_sto W.hr na
  have z := W.sub.none na
  exact ⟨(W.sub.sup z).sup W.nw, W.nw, z, W.nm, W.nr, sup_same, by rw [sup_ne wa.symm, sup_same], by rw [sup_ne W.wm.symm, sup_ne ma']; exact W.hm, by rw [sup_ne W.wr.symm, sup_ne ra']; exact W.hr, ma'.symm, ra'.symm, W.mr⟩
theorem pt_row (v : Int) : putKD (key "row") (.int v) (wkD s ta ma ra) = wkD { s with row := v } ta ma ra := by simp [putKD, wkD, key]
theorem pt_place (v : Int) : putKD (key "place") (.int v) (wkD s ta ma ra) = wkD { s with place := v } ta ma ra := by simp [putKD, wkD, key]
theorem pt_low (v : Int) : putKD (key "low") (.int v) (wkD s ta ma ra) = wkD { s with low := v } ta ma ra := by simp [putKD, wkD, key]
theorem pt_high (v : Int) : putKD (key "high") (.int v) (wkD s ta ma ra) = wkD { s with high := v } ta ma ra := by simp [putKD, wkD, key]
theorem pt_many (v : Int) : putKD (key "many") (.int v) (wkD s ta ma ra) = wkD { s with many := v } ta ma ra := by simp [putKD, wkD, key]
theorem pt_red (v : Bool) : putKD (key "red") (.bl v) (wkD s ta ma ra) = wkD { s with red := v } ta ma ra := by simp [putKD, wkD, key]
theorem pt_caps (v : Bool) : putKD (key "caps") (.bl v) (wkD s ta ma ra) = wkD { s with caps := v } ta ma ra := by simp [putKD, wkD, key]
theorem pt_free (v : Bool) : putKD (key "free") (.bl v) (wkD s ta ma ra) = wkD { s with free := v } ta ma ra := by simp [putKD, wkD, key]
theorem pt_tabs (a : Addr) (r : List Int) : putKD (key "tabs") (.ref a) (wkD s ta ma ra) = wkD { s with tabs := r } a ma ra := by simp [putKD, wkD, key]
@[simp] theorem keyD_str (n : String) : keyD (.str (PySem.Str.ofString n)) = some (key n) := rfl
end
variable {A : Ad} (hA : AdOk A)
include hA
theorem dt__law_shut : ∀ ds m R x, ph__law_shut A ds m R x → psi__law_shut A (startD 2 ds) m (endD R x) := by
  rintro ds m R x ⟨w, p, m0, s, rfl, ⟨ta, ma, ra, W⟩, h⟩
  simp [psi__law_shut, gt_end W.hw, gt_free W.hw, gt_high W.hw, wGt]
  simp only [shutL] at h
  by_cases h1 : 2 * s.c < p
  · simpa [h1] using h
  · cases h2 : s.free
    · simpa [h1, h2] using h
    · simpa [h1, h2] using h
theorem dt__law_go : ∀ ds m R x, ph__law_go A ds m R x → psi__law_go A (startD 3 ds) m (endD R x) := by
  rintro ds m R x ⟨w, p, m0, s, rfl, ⟨ta, ma, ra, W⟩, hl, h⟩
  simp [psi__law_go, gt_high W.hw, gt_place W.hw, wSub, wLt, wGe]
  have fin : ∀ (m1 : Store) (s1 : LW), WkAt m0 w m1 s1 ta ma ra → { s1 with place := p } = goL s p → s1.row = s.row → (∃ kvs, m1 w = some (.dct kvs) ∧ kvs.length < LIM ∧ wDGet (.ref w) (.str (PySem.Str.ofString "row")) (sup m1 w (.dct (putKD (key "place") (.int p) kvs))) fun u m1 => 3 ≤ LIM ∧ R (.tup [.str (PySem.Str.ofString "moved"), u, .int p]) m1) := by
    intro m1 s1 W1 e1 e2
    refine ⟨_, W1.hw, wk_len _ _ _ _, ?_⟩
    rw [pt_place]
    have W2 := W1.put (s' := { s1 with place := p }) rfl rfl rfl
    rw [gt_row W2.hw]
    refine ⟨by decide, ?_⟩
    rw [e1] at W2
    have := h _ ⟨ta, ma, ra, W2⟩
    rw [← e2] at this
    show R (movedD s1.row p) _
    rw [e1]
    exact this
  by_cases h1 : s.place < s.high - 10
  · by_cases h2 : s.high - 10 ≤ p
    · simp [h1, h2, gt_rings W.hw, gt_many W.hw, tyM, W.hr, wAppend]
      refine ⟨hl, ?_⟩
      have W1 := W.rings (s.rings ++ [s.many])
      rw [List.map_append] at W1
      exact fin _ _ W1 (by simp [goL, h1, h2]) rfl
    · simp [h1, h2]
      exact fin _ _ W (by simp [goL, h1, h2]) rfl
  · simp [h1]
    exact fin _ _ W (by simp [goL, h1]) rfl
theorem dt__law_as : ∀ ds m R x, ph__law_as A ds m R x → psi__law_as A (startD 2 ds) m (endD R x) := by
  rintro ds m R x ⟨w, c, m0, s, rfl, hc, ⟨ta, ma, ra, W⟩, h⟩
  simp [psi__law_as, gt_caps W.hw]
  simp only [asL1] at h
  cases h1 : s.caps
  · simpa [h1] using h
  · simp [tyM, wUpper]
    exact ⟨hc, by simpa [h1] using h⟩
theorem dt__law_new : ∀ ds m R x, ph__law_new A ds m R x → psi__law_new A (startD 4 ds) m (endD R x) := by
  rintro ds m R x ⟨c, dead, dn, tabs, rfl, hM, h⟩
  simp [psi__law_new, wMul, wList, asQ, keysD]
  intro ta nta w nw
  have e1 : w ≠ ta := by intro e; subst e; rw [sup_same] at nw; cases nw
  have nw' : m w = none := by rwa [sup_ne e1] at nw
  simp [tyM, sup_same]
  intro ma nma ra nra u nu
  rw [sup_none, sup_none] at nma
  rw [sup_none, sup_none, sup_none] at nra
  rw [sup_none, sup_none, sup_none, sup_none] at nu
  obtain ⟨ema2, ema1, nma'⟩ := nma
  obtain ⟨era3, era2, era1, nra'⟩ := nra
  obtain ⟨eur, eum, euw, eut, nu'⟩ := nu
  refine ⟨_, _, fun e => euw e.symm, (by rw [sup_ne euw.symm, sup_ne era2.symm, sup_ne ema2.symm, sup_same]), sup_same, ?_, ?_⟩
  · simp [mergeD, putKD, key]
    decide
  · refine ⟨_, Sub.refl _, h w _ ⟨ta, ma, ra, ⟨?_, nw', nta, nma', nra', ?_, ?_, ?_, ?_, ema1.symm, era1.symm, era3.symm⟩⟩⟩
    · exact ((((Sub.refl m).sup nta).sup nw').sup nma').sup nra' |>.sup nu' |>.sup nw'
    · rw [sup_same]
      simp [mergeD, putKD, key, wkD, newL]
    · rw [sup_ne e1.symm, sup_ne eut.symm, sup_ne era1.symm, sup_ne ema1.symm, sup_ne e1.symm, sup_same]; rfl
    · rw [sup_ne ema2, sup_ne eum.symm, sup_ne era3.symm, sup_same]; rfl
    · rw [sup_ne era2, sup_ne eur.symm, sup_same]; rfl
end DL
end
section
set_option maxHeartbeats 0
namespace DL
open PySem
theorem sort_uniq {α : Type} {le : α → α → Prop} : ∀ {l m : List α}, (∀ x ∈ l, ∀ y ∈ l, le x y → le y x → x = y) → l.Pairwise le → m.Pairwise le → l.Perm m → l = m
  | [], m, _, _, _, h => (List.Perm.eq_nil h.symm).symm
  | x :: l, [], _, _, _, h => absurd h.length_eq (by simp)
  | x :: l, y :: m, ha, hl, hm, h => by
    obtain ⟨l1, l2⟩ := List.pairwise_cons.mp hl
    obtain ⟨m1, m2⟩ := List.pairwise_cons.mp hm
    have e : x = y := by
      rcases List.mem_cons.mp (h.mem_iff.mp (List.mem_cons_self (a := x) (l := l))) with e | hx
      · exact e
      · rcases List.mem_cons.mp (h.mem_iff.mpr (List.mem_cons_self (a := y) (l := m))) with e | hy
        · exact e.symm
        · exact ha x List.mem_cons_self y (List.mem_cons_of_mem _ hy) (l1 y hy) (m1 x hx)
    subst e
    rw [sort_uniq (fun a h1 b h2 => ha a (List.mem_cons_of_mem _ h1) b (List.mem_cons_of_mem _ h2)) l2 m2 h.cons_inv]
theorem mkLt_iff {a b : Mk} : mkLt a b = true ↔ a.row < b.row ∨ (a.row = b.row ∧ (a.place < b.place ∨ (a.place = b.place ∧ a.n < b.n))) := by
  simp [mkLt]
theorem mkLt_no {a b : Mk} : mkLt a b = false ↔ ¬ (a.row < b.row ∨ (a.row = b.row ∧ (a.place < b.place ∨ (a.place = b.place ∧ a.n < b.n)))) := by
  rw [← mkLt_iff]; simp
theorem n_inj {ms : List Mk} (h : ms.Pairwise (fun a b => a.n < b.n)) : ∀ a ∈ ms, ∀ b ∈ ms, a.n = b.n → a = b := by
  induction ms with
  | nil => intro a ha; simp at ha
  | cons x l ih =>
    obtain ⟨h1, h2⟩ := List.pairwise_cons.mp h
    intro a ha b hb e
    rcases List.mem_cons.mp ha with z | z <;> rcases List.mem_cons.mp hb with y | y
    · rw [z, y]
    · subst z; have := h1 b y; omega
    · subst y; have := h1 a z; omega
    · exact ih h2 a z b y e
theorem sortM_perm (ms : List Mk) : (sortM ms).Perm ms := List.mergeSort_perm _ _
theorem sortM_le (ms : List Mk) : (sortM ms).Pairwise (fun a b => mkLt b a = false) := by
  have h := List.pairwise_mergeSort (le := fun a b : Mk => !mkLt b a) (fun a b c h1 h2 => ?_) (fun a b => ?_) ms
  · exact h.imp fun h => by simpa using h
  · simp only [Bool.not_eq_true'] at h1 h2 ⊢
    rw [mkLt_no] at h1 h2 ⊢
    omega
  · rw [Bool.or_eq_true]
    simp only [Bool.not_eq_true']
    rw [mkLt_no, mkLt_no]
    omega
theorem sortM_is {ms ys : List Mk} (hn : ms.Pairwise (fun a b => a.n < b.n)) (hp : ys.Perm ms) (hs : ys.Pairwise (fun a b => mkLt b a = false)) : ys = sortM ms := by
  refine sort_uniq (le := fun a b => mkLt b a = false) (fun x hx y hy h1 h2 => ?_) hs (sortM_le ms) (hp.trans (sortM_perm ms).symm)
  rw [mkLt_no] at h1 h2
  exact n_inj hn x (hp.mem_iff.mp hx) y (hp.mem_iff.mp hy) (by omega)
theorem sortM_id {ms : List Mk} (hn : ms.Pairwise (fun a b => a.n < b.n)) (hs : ms.Pairwise (fun a b => mkLt b a = false)) : sortM ms = ms := (sortM_is hn (.refl _) hs).symm
theorem key_lt {f : Mk → D} {k : Nat} {ms : List Mk} (hn : ms.Pairwise (fun a b => a.n < b.n)) (hok : ∀ a ∈ ms, dOk (f a) k = true) (hal : ∀ a ∈ ms, ∀ b ∈ ms, alikeD (f a) (f b) = true) : ∀ a ∈ ms, ∀ b ∈ ms, ltD (.tup [.int a.row, .int a.place, .int a.n, f a]) (.tup [.int b.row, .int b.place, .int b.n, f b]) = mkLt a b := by
  intro a ha b hb
  have i1 : ∀ i : Int, dOk (.int i) 0 = true := fun _ => rfl
  have e1 : ∀ i j : Int, eqD (.int i) (.int j) = decide (i = j) := fun _ _ => by simp [eqD]
  rw [ltD_cons (alikeD_int _ _) (i1 _) (i1 _), ltD_cons (alikeD_int _ _) (i1 _) (i1 _), ltD_cons (alikeD_int _ _) (i1 _) (i1 _), ltD_cons (hal a ha b hb) (hok a ha) (hok b hb)]
  simp only [e1, decide_eq_true_eq, ltD_int]
  rw [Bool.eq_iff_iff, mkLt_iff]
  by_cases h1 : a.row = b.row
  · rw [if_pos h1]
    by_cases h2 : a.place = b.place
    · rw [if_pos h2]
      by_cases h3 : a.n = b.n
      · have := n_inj hn a ha b hb h3
        subst this
        rw [if_pos rfl, eqD_refl _ _ (hok a ha), if_pos rfl, ltD_nil]
        simp
      · rw [if_neg h3]; simp; omega
    · rw [if_neg h2]; simp; omega
  · rw [if_neg h1]; simp; omega
theorem mk_alike (a b : Mk) : alikeD (mkD a) (mkD b) = true := by
  have : ∀ x y : Bool, alikeD (colD x) (colD y) = true := fun x y => by cases x <;> cases y <;> rfl
  simp [mkD, alikeD_cons, alikeD_int, alikeD_str, alikeD_nil, this]
variable {A : Ad} (hA : AdOk A)
include hA
theorem dt__law_marks : ∀ ds m R x, ph__law_marks A ds m R x → psi__law_marks A (startD 6 ds) m (endD R x) := by
  rintro ds m R x ⟨w, m0, s, rfl, ⟨ta, ma, ra, W⟩, hn, hg, hl, h⟩
  have L : LIM = 16777216 := rfl
  simp [psi__law_marks, gt_marks W.hw, asI, W.hm]
  refine lc_map (G := fun m' => m' ma = some (.lst (s.marks.map mkD))) mkD (fun k => .tup [.int k.row, .int k.place, .int k.n, mkD k]) W.hm s.marks [] _ (by simp; omega) (fun k hk K1 hK => ?_) ?_
  · have i1 : ∀ K : KD, wIx (mkD k) (.int 1) m K = K (.int k.row) m := fun _ => rfl
    have i2 : ∀ K : KD, wIx (mkD k) (.int 2) m K = K (.int k.place) m := fun _ => rfl
    have i0 : ∀ K : KD, wIx (mkD k) (.int 0) m K = K (.int k.n) m := fun _ => rfl
    simp [i1, i2, i0]
    exact ⟨by decide, hK⟩
  · rw [List.nil_append]
    have hk60 : ∀ k ∈ s.marks, dOk (mkD k) 58 = true := fun k hk => ok_mk k 57 (hg k hk)
    refine sort_by (fun k : Mk => D.tup [.int k.row, .int k.place, .int k.n, mkD k]) mkLt s.marks rfl (fun k hk => ?_) (fun a ha b hb => ?_) (.inl fun d hd => ?_) (fun a ha b hb => key_lt hn hk60 (fun a _ b _ => mk_alike a b) a ha b hb) fun ys hp hs => ?_
    · rw [dOk, dOks, dOks, dOks, dOks, hk60 k hk]; rfl
    · simp [alikeD_cons, alikeD_int, alikeD_nil, mk_alike]
    · obtain ⟨k, _, rfl⟩ := List.mem_map.mp hd; exact ⟨_, _, rfl⟩
    · have e := sortM_is hn hp hs
      subst e
      simp [asI]
      have hlen : (sortM s.marks).length = s.marks.length := (sortM_perm _).length_eq
      have key : ∀ (xs : List Mk) (acc : List D) (K : List D → Store → Prop) (v0 v1 : Option D), acc.length + xs.length ≤ LIM → K (acc ++ xs.map mkD) m → wLcL (fun _ => True) [3, 4, 5, 2] (gTp [3, 4, 5, 2]) wYes (wVar 2) [v0, v1, none, none, none, none] (xs.map fun k => D.tup [.int k.row, .int k.place, .int k.n, mkD k]) acc m K := by
        intro xs
        induction xs with
        | nil => intro acc K v0 v1 _ hK; exact ⟨trivial, by simpa using hK⟩
        | cons k xs ih =>
          intro acc K v0 v1 hl hK
          simp only [List.length_cons] at hl
          refine ⟨trivial, ?_⟩
          simp
          exact ⟨by omega, ih (acc ++ [mkD k]) K v0 v1 (by simp; omega) (by simpa using hK)⟩
      exact key (sortM s.marks) [] _ _ _ (by rw [hlen]; simp; omega) h
end DL
end
section
set_option maxHeartbeats 0
namespace DL
open PySem
def psi_marks_of (A : Ad) : WS := wSeq (wAsg (wCall 3 (ph_worked A) (wCons (wVar 0) (wCons (wTup (wNil)) (wCons (wVar 1) (wNil))))) (gTp [2, 3])) (wSeq (wSet 4 (wCallB (wSortD false) (wCons (wLc false [5] (iSeq (wFld A.cMachine "marks" (wVar 2))) (gNm 5) (wYes) (wTup (wCons (wOp wIx (wVar 5) (wC (.int 1))) (wCons (wOp wIx (wVar 5) (wC (.int 2))) (wCons (wOp wIx (wVar 5) (wC (.int 0))) (wCons (wSl (wCut false) (wVar 5) (oSome (wC (.int 1))) (oNone)) (wNil))))))) (wNil)))) (wRet (wFgt (wLc false [6, 7, 8, 5] (iSeq (wVar 4)) (gTp [6, 7, 8, 5]) (wYes) (wOp (wAdd false) (wTup (wCons (wVar 8) (wNil))) (wVar 5))))))
def psi_strikes (A : Ad) : WS := wSeq (wExp (wCall 2 (ph_need_both A) (wCons (wVar 0) (wCons (wVar 1) (wNil))))) (wRet (wLc false [2] (iSeq (wCall 2 (ph_marks_of A) (wCons (wVar 0) (wCons (wVar 1) (wNil))))) (gNm 2) (wYes) (wSl (wCut false) (wVar 2) (oSome (wC (.int 1))) (oNone))))
end DL
end
section
set_option maxHeartbeats 0
namespace DL
open PySem
theorem dput_ok {m : Store} {w ta ma ra : Addr} {s : LW} {K : List (DKey × D) → Prop} (hw : m w = some (.dct (wkD s ta ma ra))) (h : K (wkD s ta ma ra)) : ∃ kvs, m w = some (.dct kvs) ∧ kvs.length < LIM ∧ K kvs := ⟨_, hw, wk_len _ _ _ _, h⟩
theorem ns_in (p : Int) (ts : List Int) : inD (.int p) (ts.map .int) = decide (p ∈ ts) := by
  simp only [inD, List.any_map]
  rw [Bool.eq_iff_iff]
  simp [eqD, Function.comp]
theorem flat_ints (ts : List Int) : (ts.map D.int).all flatD = true := by simp [flatD]
def trn : List (DKey × D) := [(key "free", .str (PySem.Str.ofString "free")), (key "ribbon", .str (PySem.Str.ofString "red")), (key "caps", .str (PySem.Str.ofString "caps"))]
theorem lkFree : lookK (mergeD [] [(key "free", .str (PySem.Str.ofString "free")), (key "ribbon", .str (PySem.Str.ofString "red")), (key "caps", .str (PySem.Str.ofString "caps"))]) (key "free") = some (.str (PySem.Str.ofString "free")) := by simp [mergeD, putKD, lookK, key]
theorem lkRib : lookK (mergeD [] [(key "free", .str (PySem.Str.ofString "free")), (key "ribbon", .str (PySem.Str.ofString "red")), (key "caps", .str (PySem.Str.ofString "caps"))]) (key "ribbon") = some (.str (PySem.Str.ofString "red")) := by simp [mergeD, putKD, lookK, key]
theorem lkCaps : lookK (mergeD [] [(key "free", .str (PySem.Str.ofString "free")), (key "ribbon", .str (PySem.Str.ofString "red")), (key "caps", .str (PySem.Str.ofString "caps"))]) (key "caps") = some (.str (PySem.Str.ofString "caps")) := by simp [mergeD, putKD, lookK, key]
theorem wIn_yes {n : String} {ns : List String} {m : Store} {R : KD} (h : n ∈ ns) (hR : R (.bl true) m) : wIn (.str (PySem.Str.ofString n)) (.tup (ns.map wordD)) m R := by
  refine ⟨rfl, by simp [flatD, wordD], ?_⟩
  have : inD (.str (PySem.Str.ofString n)) (ns.map wordD) = true := by simpa [inD, wordD, eqD] using h
  rw [this]; exact hR
theorem wIn_no {n : String} {ns : List String} {m : Store} {R : KD} (h : n ∉ ns) (hR : R (.bl false) m) : wIn (.str (PySem.Str.ofString n)) (.tup (ns.map wordD)) m R := by
  refine ⟨rfl, by simp [flatD, wordD], ?_⟩
  have : inD (.str (PySem.Str.ofString n)) (ns.map wordD) = false := by
    simp [inD, wordD, eqD]
    intro x hx e; exact h (e ▸ hx)
  rw [this]; exact hR
variable {A : Ad} (hA : AdOk A)
include hA
theorem tabs_lc {m : Store} {ta : Addr} {s : LW} (ht : m ta = some (.lst (s.tabs.map .int))) (hl : s.tabs.length < 1000000) {r : Env} {K : List D → Store → Prop} {i j : Nat} {v : Int} (hi : ∀ d, get (put (wipeD r [i]) i (some d)) i = some d) (hj : ∀ d, get (put (wipeD r [i]) i (some d)) j = some (.int v))
    (h : K ((s.tabs.filter (fun t => decide (t ≠ v))).map .int) m) : wLcL (fun m' => m' ta = some (.lst (s.tabs.map .int))) [i] (gNm i) (wTest (wOp wNe (wVar i) (wVar j))) (wVar i) r (s.tabs.map .int) [] m K := by
  have L : LIM = 16777216 := rfl
  refine lc_filter (G := fun m' => m' ta = some (.lst (s.tabs.map .int))) D.int (fun t => decide (t ≠ v)) ht hi s.tabs [] _ (by simp; omega) (fun k hk1 K2 hK2 => ?_) (by simpa using h)
  simp only [e_test, e_op, e_var, hi, hj, ok_some, wNe, wEq]
  simpa using hK2
theorem dt__law_turn : ∀ ds m R x, ph__law_turn A ds m R x → psi__law_turn A (startD 5 ds) m (endD R x) := by
  rintro ds m R x ⟨w, k, m0, s, rfl, hk, ⟨ta, ma, ra, W⟩, hl, h⟩
  have L : LIM = 16777216 := rfl
  have two : ∀ (s' : LW) (r : Env), turnL s k = (s', doneD) → s'.tabs = s.tabs → s'.marks = s.marks → s'.rings = s.rings → psi__law_turn_t2 A r (sup m w (.dct (wkD s' ta ma ra))) (endD R x) := by
    intro s' r e e1 e2 e3
    simp [psi__law_turn_t2]
    refine ⟨by decide, ?_⟩
    rw [e] at h
    exact h _ ⟨ta, ma, ra, W.put e1 e2 e3⟩
  have tab : ∀ (ts : List Int) (a : Addr) (r : Env), m a = none → turnL s k = ({ s with tabs := ts }, doneD) → psi__law_turn_t2 A r (sup (sup m a (.lst (ts.map .int))) w (.dct (wkD { s with tabs := ts } a ma ra))) (endD R x) := by
    intro ts a r na e
    simp [psi__law_turn_t2]
    refine ⟨by decide, ?_⟩
    rw [e] at h
    exact h _ ⟨a, ma, ra, W.tabs na ts⟩
  have lk : turnL s k = (s, lockD) → 1 ≤ LIM ∧ R lockD m := fun e => ⟨by decide, by rw [e] at h; exact h _ ⟨ta, ma, ra, W⟩⟩
  simp [psi__law_turn, gt_place W.hw, wordD]
  cases k <;> simp [isTurn] at hk
  case left =>
    simp [psi__law_turn_t1, kyW, wEq, gt_high W.hw, wLt]
    by_cases hp : s.place < s.high
    · simp [hp]
      refine dput_ok W.hw ?_
      rw [pt_low]
      exact two _ _ (by simp [turnL, hp]) rfl rfl rfl
    · simp [hp]
      refine ⟨by decide, wIn_yes (ns := ["left", "right", "clear"]) (by decide) ?_⟩
      simp
      exact lk (by simp [turnL, hp])
  case right =>
    simp [psi__law_turn_t1, kyW, wEq, gt_low W.hw, wGt]
    by_cases hp : s.low < s.place
    · simp [hp]
      refine dput_ok W.hw ?_
      rw [pt_high]
      exact two _ _ (by simp [turnL, hp]) rfl rfl rfl
    · simp [hp]
      refine ⟨by decide, wIn_yes (ns := ["left", "right", "clear"]) (by decide) ?_⟩
      simp
      exact lk (by simp [turnL, hp])
  case set =>
    simp [psi__law_turn_t1, kyW, wEq, gt_tabs W.hw, asI, W.ht]
    refine tabs_lc hA (v := s.place) W.ht hl (by simp) (by simp) ?_
    simp
    have hf : (s.tabs.filter (fun t => decide (t ≠ s.place))).length ≤ s.tabs.length := List.length_filter_le _ _
    refine ⟨by decide, _, _, rfl, rfl, by simp at hf ⊢; omega, fun a na => ?_⟩
    have wa : w ≠ a := ne_sto W.hw na
    refine dput_ok (s := s) (ta := ta) (ma := ma) (ra := ra) (by rw [sup_ne wa]; exact W.hw) ?_
    rw [pt_tabs a (s.tabs.filter (fun t => decide (t ≠ s.place)) ++ [s.place])]
    have := tab (s.tabs.filter (fun t => decide (t ≠ s.place)) ++ [s.place]) a [some (.ref w), some (.str (PySem.Str.ofString "set")), some (.int s.place), none, none] na (by simp [turnL])
    simpa using this
  case clear =>
    simp [psi__law_turn_t1, kyW, wEq, gt_tabs W.hw]
    refine ⟨_, show asL m (.ref ta) = some (s.tabs.map .int) by simp [asL, W.ht], .inl ⟨rfl, by simp [flatD]⟩, ?_⟩
    rw [ns_in]
    by_cases hp : s.place ∈ s.tabs
    · simp [hp, asI, W.ht, gt_tabs W.hw]
      refine tabs_lc hA (v := s.place) W.ht hl (by simp) (by simp) ?_
      intro a na
      have wa : w ≠ a := ne_sto W.hw na
      refine dput_ok (s := s) (ta := ta) (ma := ma) (ra := ra) (by rw [sup_ne wa]; exact W.hw) ?_
      rw [pt_tabs a (s.tabs.filter (fun t => decide (t ≠ s.place)))]
      exact tab _ a _ na (by simp [turnL, hp])
    · simp [hp]
      refine ⟨by decide, wIn_yes (ns := ["left", "right", "clear"]) (by decide) ?_⟩
      simp
      exact lk (by simp [turnL, hp])
  case all =>
    simp [psi__law_turn_t1, kyW, wEq]
    refine ⟨by decide, wIn_no (ns := ["left", "right", "clear"]) (by decide) ?_⟩
    simp
    intro a na
    have wa : w ≠ a := ne_sto W.hw na
    refine dput_ok (s := s) (ta := ta) (ma := ma) (ra := ra) (by rw [sup_ne wa]; exact W.hw) ?_
    rw [pt_tabs a []]
    exact tab [] a _ na (by simp [turnL])
  case free =>
    simp [psi__law_turn_t1, kyW, wEq]
    refine ⟨by decide, wIn_no (ns := ["left", "right", "clear"]) (by decide) ?_⟩
    simp [keysD, lkFree]
    refine dput_ok W.hw ?_
    rw [pt_free]
    exact two _ _ (by simp [turnL]) rfl rfl rfl
  case ribbon =>
    simp [psi__law_turn_t1, kyW, wEq]
    refine ⟨by decide, wIn_no (ns := ["left", "right", "clear"]) (by decide) ?_⟩
    simp [keysD, lkRib, gt_red W.hw]
    refine dput_ok W.hw ?_
    rw [pt_red]
    exact two _ _ (by simp [turnL]) rfl rfl rfl
  case caps =>
    simp [psi__law_turn_t1, kyW, wEq]
    refine ⟨by decide, wIn_no (ns := ["left", "right", "clear"]) (by decide) ?_⟩
    simp [keysD, lkCaps, gt_caps W.hw]
    refine dput_ok W.hw ?_
    rw [pt_caps]
    exact two _ _ (by simp [turnL]) rfl rfl rfl
end DL
end
section
set_option maxHeartbeats 0
namespace DL
open PySem
theorem lkRow (s : D) : lookK (mergeD [] [(key "return", s), (key "up", .int (-1)), (key "down", .int 1)]) (key "return") = some s := by simp [mergeD, putKD, lookK, key]
theorem lkUp (s : D) : lookK (mergeD [] [(key "return", s), (key "up", .int (-1)), (key "down", .int 1)]) (key "up") = some (.int (-1)) := by simp [mergeD, putKD, lookK, key]
theorem lkDown (s : D) : lookK (mergeD [] [(key "return", s), (key "up", .int (-1)), (key "down", .int 1)]) (key "down") = some (.int 1) := by simp [mergeD, putKD, lookK, key]
theorem kyW_in (k : Ky) (h : isTurn k = true) : kyW k ∈ ["left", "right", "set", "clear", "all", "free", "ribbon", "caps"] := by cases k <;> simp [isTurn, kyW] at h ⊢
theorem kyW_no (k : Ky) (h : isStep k = true) : kyW k ∉ ["left", "right", "set", "clear", "all", "free", "ribbon", "caps"] := by cases k <;> simp [isStep, kyW] at h ⊢
theorem goL_sm {s : LW} {p : Int} {n : Nat} (h : s.sm n) : (goL s p).sm (n + 1) := by
  obtain ⟨h1, h2, h3, h4⟩ := h
  refine ⟨by simp [goL]; omega, by simp [goL]; omega, ?_, by simpa [goL] using h4⟩
  simp only [goL]
  split <;> (try simp) <;> omega
theorem LW.sm.up {s : LW} {n : Nat} (h : s.sm n) : s.sm (n + 1) := ⟨by have := h.t; omega, by have := h.m; omega, by have := h.r; omega, h.g⟩
theorem act_sm {s : LW} {k : Ky} {n : Nat} (hk : kyOk k) (h : s.sm n) : (actL s k).1.sm (n + 1) := by
  have ink : ∀ st c, c < 128 → (inkL s st c).1.sm (n + 1) := by
    intro st c hc
    unfold inkL
    split
    · exact h.up
    · have hm : (inkM s st c).1.length ≤ n + 1 ∧ ∀ z ∈ (inkM s st c).1, z.sign < 128 := by
        unfold inkM
        split
        · refine ⟨by simp; exact h.m, fun z hz => ?_⟩
          rcases List.mem_append.mp hz with e | e
          · exact h.g z e
          · simp at e; subst e; exact asL1_lt hc
        · split
          · exact ⟨by have := h.m; show s.marks.length ≤ n + 1; omega, h.g⟩
          · rename_i k _
            refine ⟨?_, fun z hz => h.g z (List.mem_of_mem_erase hz)⟩
            have h5 : (s.marks.erase k).length ≤ s.marks.length := List.length_erase_le
            have := h.m
            show (s.marks.erase k).length ≤ n + 1
            omega
      show LW.sm (if c ∈ s.dead then _ else _) (n + 1)
      split
      · exact ⟨h.up.t, hm.1, h.up.r, hm.2⟩
      · refine ⟨by simp [goL]; exact h.up.t, by simp [goL]; exact hm.1, ?_, by simp [goL]; exact hm.2⟩
        have := h.r
        simp only [goL]
        split <;> (try simp) <;> omega
  have fl : ∀ p : Int → Bool, (s.tabs.filter p).length ≤ n := fun p => Nat.le_trans (List.length_filter_le _ _) h.t
  have on : ∀ p, (onL s p).1.sm (n + 1) := by intro p; unfold onL; split; exact h.up; exact goL_sm h
  have row : ∀ r b, (rowL s r b).1.sm (n + 1) := by
    intro r b; unfold rowL; split
    · exact h.up
    · split <;> exact ⟨h.up.t, h.up.m, h.up.r, h.g⟩
  cases k with
  | sign c => exact ink true c hk
  | lift c => exact ink false c hk
  | left => simp only [actL, isTurn, if_true, turnL]; split <;> exact ⟨h.up.t, h.up.m, h.up.r, h.g⟩
  | right => simp only [actL, isTurn, if_true, turnL]; split <;> exact ⟨h.up.t, h.up.m, h.up.r, h.g⟩
  | set => simp only [actL, isTurn, if_true, turnL]; exact ⟨by simpa using fl _, h.up.m, h.up.r, h.g⟩
  | clear => simp only [actL, isTurn, if_true, turnL]; split; exact ⟨Nat.le_succ_of_le (fl _), h.up.m, h.up.r, h.g⟩; exact h.up
  | all => simp only [actL, isTurn, if_true, turnL]; exact ⟨by simp, h.up.m, h.up.r, h.g⟩
  | free => exact ⟨h.up.t, h.up.m, h.up.r, h.g⟩
  | ribbon => exact ⟨h.up.t, h.up.m, h.up.r, h.g⟩
  | caps => exact ⟨h.up.t, h.up.m, h.up.r, h.g⟩
  | back => show LW.sm (stepL1 s .back).1 _; simp only [stepL1]; split; exact h.up; exact ⟨h.up.t, h.up.m, h.up.r, h.g⟩
  | ret => exact row _ _
  | up => exact row _ _
  | down => exact row _ _
  | blank => exact on _
  | half => exact on _
  | tab => exact on _
variable {A : Ad} (hA : AdOk A)
include hA
theorem dt__law_step : ∀ ds m R x, ph__law_step A ds m R x → psi__law_step A (startD 6 ds) m (endD R x) := by
  rintro ds m R x ⟨w, k, m0, s, rfl, hk, ⟨ta, ma, ra, W⟩, hl, hl2, h⟩
  have L : LIM = 16777216 := rfl
  have lk : stepL1 s k = (s, lockD) → 1 ≤ LIM ∧ R lockD m := fun e => ⟨by decide, by rw [e] at h; exact h _ ⟨ta, ma, ra, W⟩⟩
  simp [psi__law_step, gt_place W.hw, wordD]
  -- the last statement: to a goal
  have fin : ∀ (p : Int) (v1 v3 v5 : Option D), stepL1 s k = onL s p → psi__law_step_t5 A [some (.ref w), v1, some (.int s.place), v3, some (.int p), v5] m (endD R x) := by
    intro p v1 v3 v5 e
    simp [psi__law_step_t5]
    refine ⟨_, _, _, _, rfl, ⟨ta, ma, ra, W⟩, ?_⟩
    cases hs : shutL s p
    · simp
      refine ⟨_, _, _, _, rfl, ⟨ta, ma, ra, W⟩, by omega, fun m' hW => ?_⟩
      have e' : stepL1 s k = (goL s p, movedD s.row p) := by rw [e]; simp [onL, hs]
      rw [e'] at h
      exact h m' hW
    · simp
      exact lk (by rw [e]; simp [onL, hs])
  cases k <;> simp [isStep] at hk
  case back =>
    simp [psi__law_step_t1, kyW, wEq, wLt, gt_free W.hw, gt_low W.hw, wGe, wSub, wGt]
    have mv : ¬ (s.place < 2 ∨ (s.free = false ∧ s.low ≤ s.place ∧ s.place - 2 < s.low)) → ∃ kvs, m w = some (.dct kvs) ∧ kvs.length < LIM ∧ wDGet (.ref w) (.str (PySem.Str.ofString "row")) (sup m w (.dct (putKD (key "place") (.int (s.place - 2)) kvs))) fun u m1 => 3 ≤ LIM ∧ R (.tup [.str (PySem.Str.ofString "moved"), u, .int (s.place - 2)]) m1 := by
      intro hn
      refine dput_ok W.hw ?_
      rw [pt_place]
      have W2 := W.put (s' := { s with place := s.place - 2 }) rfl rfl rfl
      rw [gt_row W2.hw]
      refine ⟨by decide, ?_⟩
      have e : stepL1 s .back = ({ s with place := s.place - 2 }, movedD s.row (s.place - 2)) := by simp only [stepL1]; rw [if_neg hn]
      rw [e] at h
      exact h _ ⟨ta, ma, ra, W2⟩
    have lk' : (s.place < 2 ∨ (s.free = false ∧ s.low ≤ s.place ∧ s.place - 2 < s.low)) → 1 ≤ LIM ∧ R (.tup [.str (PySem.Str.ofString "locked")]) m := fun hy => lk (by simp only [stepL1]; rw [if_pos hy])
    by_cases h1 : s.place < 2
    · simp [h1]
      exact lk' (.inl h1)
    · simp [h1]
      cases h2 : s.free
      · simp
        by_cases h3 : s.low ≤ s.place
        · simp [h3]
          by_cases h4 : s.place - 2 < s.low
          · simp [h4]
            exact lk' (.inr ⟨h2, h3, h4⟩)
          · simp [h4]
            exact mv (by simp [h1, h2, h3, h4])
        · simp [h3]
          exact mv (by simp [h1, h3])
      · simp
        exact mv (by simp [h1, h2])
  case ret =>
    simp [psi__law_step_t1, kyW, wEq]
    simp [psi__law_step_t2]
    refine ⟨by decide, wIn_yes (ns := ["return", "up", "down"]) (by decide) ?_⟩
    simp [gt_row W.hw, gt_machine W.hw, keysD, wNeg, lkRow, wAdd, wLt, wGt]
    have e0 : s.row + s.dn = s.row + s.dn := rfl
    by_cases h1 : s.row + s.dn < 0
    · simp [e0, h1]
      exact lk (by simp [stepL1, rowL, h1])
    · by_cases h2 : 60 < s.row + s.dn
      · simp [e0, h1, h2]
        exact lk (by simp [stepL1, rowL, h1, h2])
      simp only [e0, h1, h2, decide_false, Bool.false_eq_true, if_false]
      refine dput_ok W.hw ?_
      rw [pt_row]
      have W2 := W.put (s' := { s with row := s.row + s.dn }) rfl rfl rfl
      simp [wEq, gt_low W2.hw]
      refine dput_ok W2.hw ?_
      rw [pt_place]
      have W3 := W2.put (s' := { s with row := s.row + s.dn, place := s.low }) rfl rfl rfl
      refine dput_ok W3.hw ?_
      rw [pt_free]
      have W4 := W3.put (s' := { s with row := s.row + s.dn, place := s.low, free := false }) rfl rfl rfl
      rw [gt_place W4.hw]
      refine ⟨by decide, ?_⟩
      have e : stepL1 s .ret = ({ s with row := s.row + s.dn, place := s.low, free := false }, movedD (s.row + s.dn) s.low) := by simp [stepL1, rowL, h1, h2]
      rw [e] at h
      exact h _ ⟨ta, ma, ra, W4⟩
  case up =>
    simp [psi__law_step_t1, kyW, wEq]
    simp [psi__law_step_t2]
    refine ⟨by decide, wIn_yes (ns := ["return", "up", "down"]) (by decide) ?_⟩
    simp [gt_row W.hw, gt_machine W.hw, keysD, wNeg, lkUp, wAdd, wLt, wGt]
    have e0 : s.row + -1 = s.row - 1 := rfl
    by_cases h1 : s.row - 1 < 0
    · simp [e0, h1]
      exact lk (by simp [stepL1, rowL, h1])
    · by_cases h2 : 60 < s.row - 1
      · simp [e0, h1, h2]
        exact lk (by simp [stepL1, rowL, h1, h2])
      simp only [e0, h1, h2, decide_false, Bool.false_eq_true, if_false]
      refine dput_ok W.hw ?_
      rw [pt_row]
      have W2 := W.put (s' := { s with row := s.row - 1 }) rfl rfl rfl
      simp [wEq]
      rw [gt_place W2.hw]
      refine ⟨by decide, ?_⟩
      have e : stepL1 s .up = ({ s with row := s.row - 1 }, movedD (s.row - 1) s.place) := by simp [stepL1, rowL, h1, h2]
      rw [e] at h
      exact h _ ⟨ta, ma, ra, W2⟩
  case down =>
    simp [psi__law_step_t1, kyW, wEq]
    simp [psi__law_step_t2]
    refine ⟨by decide, wIn_yes (ns := ["return", "up", "down"]) (by decide) ?_⟩
    simp [gt_row W.hw, gt_machine W.hw, keysD, wNeg, lkDown, wAdd, wLt, wGt]
    have e0 : s.row + 1 = s.row + 1 := rfl
    by_cases h1 : s.row + 1 < 0
    · simp [e0, h1]
      exact lk (by simp [stepL1, rowL, h1])
    · by_cases h2 : 60 < s.row + 1
      · simp [e0, h1, h2]
        exact lk (by simp [stepL1, rowL, h1, h2])
      simp only [e0, h1, h2, decide_false, Bool.false_eq_true, if_false]
      refine dput_ok W.hw ?_
      rw [pt_row]
      have W2 := W.put (s' := { s with row := s.row + 1 }) rfl rfl rfl
      simp [wEq]
      rw [gt_place W2.hw]
      refine ⟨by decide, ?_⟩
      have e : stepL1 s .down = ({ s with row := s.row + 1 }, movedD (s.row + 1) s.place) := by simp [stepL1, rowL, h1, h2]
      rw [e] at h
      exact h _ ⟨ta, ma, ra, W2⟩
  case blank =>
    simp [psi__law_step_t1, kyW, wEq]
    simp [psi__law_step_t2]
    refine ⟨by decide, wIn_no (ns := ["return", "up", "down"]) (by decide) ?_⟩
    simp [psi__law_step_t3, wEq, wAdd]
    simp [psi__law_step_t4, wEq]
    exact fin _ _ _ _ rfl
  case half =>
    simp [psi__law_step_t1, kyW, wEq]
    simp [psi__law_step_t2]
    refine ⟨by decide, wIn_no (ns := ["return", "up", "down"]) (by decide) ?_⟩
    simp [psi__law_step_t3, wEq, wAdd]
    simp [psi__law_step_t4, wEq]
    exact fin _ _ _ _ rfl
  case tab =>
    simp [psi__law_step_t1, kyW, wEq]
    simp [psi__law_step_t2]
    refine ⟨by decide, wIn_no (ns := ["return", "up", "down"]) (by decide) ?_⟩
    simp [psi__law_step_t3, wEq, wAdd]
    simp [psi__law_step_t4, wEq, gt_tabs W.hw, asI, W.ht]
    have hT : ∀ m' : Store, m' = m → m' ta = some (.lst (s.tabs.map .int)) := by rintro m' rfl; exact W.ht
    refine lc_filter (G := fun m' => m' ta = some (.lst (s.tabs.map .int))) D.int (fun t => decide (s.place < t)) W.ht (by simp) s.tabs [] _ (by simp; omega) (fun k hk1 K2 hK2 => ?_) ?_
    · simp [wGt]
      exact hK2
    · have hf : (s.tabs.filter fun t => decide (s.place < t)).length ≤ s.tabs.length := List.length_filter_le _ _
      simp
      refine ⟨by decide, _, _, rfl, rfl, by simp; omega, ?_⟩
      refine ⟨(s.tabs.filter fun t => decide (s.place < t)) ++ [999], by simp [asL], by simp, fun z hz hmin => ?_⟩
      refine fin _ _ _ _ ?_
      have e : tabL s = z := by
        unfold tabL
        have : ((s.tabs.filter fun t => decide (s.place < t)) ++ [999]).min? = some z := by
          rw [List.min?_eq_some_iff]
          exact ⟨hz, hmin⟩
        rw [this]; rfl
      simp only [stepL1]
      rw [e]
theorem dt__law_press : ∀ ds m R x, ph__law_press A ds m R x → psi__law_press A (startD 3 ds) m (endD R x) := by
  rintro ds m R x ⟨w, k, m0, s, n, rfl, hk, hW, hs, hn, h⟩
  have L : LIM = 16777216 := rfl
  have tl : ∀ m' (v1 : Option D) , Wk m0 w m' (actL s k).1 → psi__law_press_t1 A [some (.ref w), v1, some (actL s k).2] m' (endD R x) := by
    rintro m' v1 ⟨ta, ma, ra, W⟩
    simp [psi__law_press_t1, gt_many W.hw, wAdd]
    refine dput_ok W.hw ?_
    rw [pt_many]
    have W2 := W.put (s' := { (actL s k).1 with many := (actL s k).1.many + 1 }) rfl rfl rfl
    simp [psi__law_press_t2]
    have sm := act_sm hk hs
    exact h _ ⟨ta, ma, ra, W2⟩ ⟨sm.t, sm.m, sm.r, sm.g⟩
  have turn : isTurn k = true → (actL s k) = turnL s k → (∀ K : KD, wIx (kyD k) (.int 0) m K = K (.str (PySem.Str.ofString (kyW k))) m) → kyW k ∉ ["sign", "lift"] → psi__law_press A (startD 3 [.ref w, kyD k]) m (endD R x) := by
    intro ht ha hx hno
    simp [psi__law_press, hx]
    refine ⟨by decide, wIn_no (ns := ["sign", "lift"]) hno ?_⟩
    simp [hx]
    refine ⟨by decide, wIn_yes (ns := ["left", "right", "set", "clear", "all", "free", "ribbon", "caps"]) (kyW_in k ht) ?_⟩
    simp [hx]
    refine ⟨w, k, m0, s, rfl, ht, hW, by have := hs.t; omega, fun m' hW' => ?_⟩
    rw [← ha] at hW' ⊢
    exact tl _ _ hW'
  have step : isStep k = true → (actL s k) = stepL1 s k → (∀ K : KD, wIx (kyD k) (.int 0) m K = K (.str (PySem.Str.ofString (kyW k))) m) → kyW k ∉ ["sign", "lift"] → psi__law_press A (startD 3 [.ref w, kyD k]) m (endD R x) := by
    intro ht ha hx hno
    simp [psi__law_press, hx]
    refine ⟨by decide, wIn_no (ns := ["sign", "lift"]) hno ?_⟩
    simp [hx]
    refine ⟨by decide, wIn_no (ns := ["left", "right", "set", "clear", "all", "free", "ribbon", "caps"]) (kyW_no k ht) ?_⟩
    simp [hx]
    refine ⟨w, k, m0, s, rfl, ht, hW, by have := hs.t; omega, by have := hs.r; omega, fun m' hW' => ?_⟩
    rw [← ha] at hW' ⊢
    exact tl _ _ hW'
  have ink : ∀ (st : Bool) (c : Nat), c < 128 → k = (if st = true then .sign c else .lift c) → psi__law_press A (startD 3 [.ref w, kyD k]) m (endD R x) := by
    intro st c hc e
    have ha : actL s k = inkL s st c := by subst e; cases st <;> rfl
    have e1 : ∀ K : KD, wIx (kyD k) (.int 0) m K = K (.str (PySem.Str.ofString (if st = true then "sign" else "lift"))) m := by subst e; cases st <;> intro K <;> rfl
    have e2 : ∀ K : KD, wIx (kyD k) (.int 1) m K = K (ch c) m := by subst e; cases st <;> intro K <;> rfl
    simp [psi__law_press, e1]
    refine ⟨by decide, wIn_yes (ns := ["sign", "lift"]) (by cases st <;> decide) ?_⟩
    simp [e1, e2]
    refine ⟨w, st, c, m0, s, rfl, hc, hW, hs.g, by have := hs.m; omega, by have := hs.r; omega, fun m' hW' => ?_⟩
    rw [← ha] at hW' ⊢
    exact tl _ _ hW'
  cases k with
  | sign c => exact ink true c hk rfl
  | lift c => exact ink false c hk rfl
  | left => exact turn rfl rfl (fun _ => rfl) (by decide)
  | right => exact turn rfl rfl (fun _ => rfl) (by decide)
  | set => exact turn rfl rfl (fun _ => rfl) (by decide)
  | clear => exact turn rfl rfl (fun _ => rfl) (by decide)
  | all => exact turn rfl rfl (fun _ => rfl) (by decide)
  | free => exact turn rfl rfl (fun _ => rfl) (by decide)
  | ribbon => exact turn rfl rfl (fun _ => rfl) (by decide)
  | caps => exact turn rfl rfl (fun _ => rfl) (by decide)
  | back => exact step rfl rfl (fun _ => rfl) (by decide)
  | ret => exact step rfl rfl (fun _ => rfl) (by decide)
  | up => exact step rfl rfl (fun _ => rfl) (by decide)
  | down => exact step rfl rfl (fun _ => rfl) (by decide)
  | blank => exact step rfl rfl (fun _ => rfl) (by decide)
  | half => exact step rfl rfl (fun _ => rfl) (by decide)
  | tab => exact step rfl rfl (fun _ => rfl) (by decide)
theorem dt__law_worked : ∀ ds m R x, ph__law_worked A ds m R x → psi__law_worked A (startD 6 ds) m (endD R x) := by
  rintro ds m R x ⟨c, dead, dn, tabs, ks, b, rfl, hM, hk, hl, h⟩
  have L : LIM = 16777216 := rfl
  simp [psi__law_worked]
  refine ⟨_, _, _, _, rfl, hM, fun w m1 hW => ?_⟩
  simp [psi__law_worked_t1, seqD_I]
  have e : ∀ (a b : List Ky) (s : LW), runL s (a ++ b) = ((runL (runL s a).1 b).1, (runL s a).2 ++ (runL (runL s a).1 b).2) := by
    intro a
    induction a with
    | nil => intro b s; simp [runL]
    | cons k a ih => intro b s; simp [runL, ih]
  refine lc_inv (fun ds acc m' => ∃ done rest n, ks = done ++ rest ∧ ds = rest.map kyD ∧ acc = (runL (newL c dead dn tabs) done).2 ∧ Wk m w m' (runL (newL c dead dn tabs) done).1 ∧ (runL (newL c dead dn tabs) done).1.sm n ∧ n + rest.length ≤ tabs.length + ks.length ∧ acc.length = done.length) _ _ _ _ ⟨[], ks, tabs.length, rfl, rfl, rfl, hW, ⟨by simp [newL, runL], by simp [newL, runL], by simp [newL, runL], by simp [newL, runL]⟩, by omega, rfl⟩ ?_ ?_
  · rintro d ds acc m' ⟨done, rest, n, e1, e2, e3, hW', hs, hn, ha⟩ P hP
    cases rest with
    | nil => cases e2
    | cons k rest =>
      simp at e2
      obtain ⟨rfl, rfl⟩ := e2
      have hkk : kyOk k := hk k (by rw [e1]; simp)
      have hlen : ks.length = done.length + (rest.length + 1) := by rw [e1]; simp
      refine ⟨trivial, ?_⟩
      simp
      refine ⟨w, k, m, _, n, rfl, hkk, hW', hs, by simp at hn; omega, fun m2 hW2 hs2 => ⟨by omega, hP _ _ ⟨done ++ [k], rest, n + 1, by rw [e1]; simp, rfl, ?_, ?_, ?_, by simp at hn; omega, by simp [ha]⟩⟩⟩
      · rw [e]; simp [runL, e3]
      · rw [e]; simpa [runL] using hW2
      · rw [e]; simpa [runL] using hs2
  · rintro acc m' ⟨done, rest, n, e1, e2, e3, hW', hs, hn, ha⟩
    have e4 : rest = [] := by cases rest with | nil => rfl | cons a b => cases e2
    subst e4
    rw [List.append_nil] at e1
    subst e1
    refine ⟨trivial, ?_⟩
    simp [psi__law_worked_t2]
    refine ⟨by decide, ?_⟩
    rw [e3]
    exact h w m' hW'
end DL
end
section
set_option maxHeartbeats 0
namespace DL
open PySem
theorem told_ok {s : LW} {k : Ky} {n : Nat} (hk : kyOk k) (hs : s.sm n) : dOk (pressL s k).2 20 = true := by
  have lk : dOk lockD 20 = true := by decide +kernel
  have dn : dOk doneD 20 = true := by decide +kernel
  have mv : ∀ r p : Int, dOk (movedD r p) 20 = true := fun r p => by
    simp only [movedD]; rw [dOk, dOks, ok_word "moved" 19 (by decide +kernel)]; rfl
  have nt : ∀ r p : Int, dOk (nothD r p) 20 = true := fun r p => by
    simp only [nothD]; rw [dOk, dOks, ok_word "nothing" 19 (by decide +kernel)]; rfl
  have st : ∀ (w : String) (k : Mk), okS (PySem.Str.ofString w) = true → k.sign < 128 → dOk (strikeD w k) 20 = true := fun w k hw h => by
    simp only [strikeD]; rw [dOk, dOks, dOks, dOks, dOks, dOks, dOks, ok_word w 19 hw, ok_ch k.sign 19 h, ok_col k.red 19]; rfl
  have ink : ∀ (b : Bool) (c : Nat), c < 128 → dOk (inkL s b c).2 20 = true := fun b c hc => by
    unfold inkL
    split
    · exact lk
    · show dOk (inkM s b c).2 20 = true
      unfold inkM
      split
      · exact st "struck" _ (by decide +kernel) (asL1_lt hc)
      · split
        · exact nt _ _
        · rename_i k e
          have hm : k ∈ likes s c := List.mem_of_getLast? e
          exact st "lifted" k (by decide +kernel) (hs.g k (List.mem_filter.mp hm).1)
  show dOk (actL s k).2 20 = true
  have on : ∀ q, dOk (onL s q).2 20 = true := fun q => by unfold onL; split; exact lk; exact mv _ _
  have rw_ : ∀ q b, dOk (rowL s q b).2 20 = true := fun q b => by unfold rowL; split; exact lk; split <;> exact mv _ _
  cases k with
  | sign c => exact ink true c hk
  | lift c => exact ink false c hk
  | blank => exact on _
  | half => exact on _
  | tab => exact on _
  | back => show dOk (stepL1 s .back).2 20 = true; simp only [stepL1]; split; exact lk; exact mv _ _
  | ret => exact rw_ _ _
  | up => exact rw_ _ _
  | down => exact rw_ _ _
  | left => show dOk (turnL s .left).2 20 = true; simp only [turnL]; split; exact dn; exact lk
  | right => show dOk (turnL s .right).2 20 = true; simp only [turnL]; split; exact dn; exact lk
  | clear => show dOk (turnL s .clear).2 20 = true; simp only [turnL]; split; exact dn; exact lk
  | _ => exact dn
theorem press_sm {s : LW} {k : Ky} {n : Nat} (hk : kyOk k) (hs : s.sm n) : (pressL s k).1.sm (n + 1) := let sm := act_sm hk hs; ⟨sm.t, sm.m, sm.r, sm.g⟩
theorem run_told : ∀ {ks : List Ky} {s : LW} {n : Nat}, (∀ k ∈ ks, kyOk k) → s.sm n → dOks (runL s ks).2 20 = true
  | [], s, n, _, _ => rfl
  | k :: ks, s, n, h, hs => by
    show dOks ((pressL s k).2 :: (runL (pressL s k).1 ks).2) 20 = true
    rw [dOks, told_ok (h k List.mem_cons_self) hs, run_told (fun k hk => h k (List.mem_cons_of_mem _ hk)) (press_sm (h k List.mem_cons_self) hs)]; rfl
theorem new_sm (c : Int) (dead : List Nat) (dn : Int) : (newS c dead dn).sm 0 := ⟨by simp [newS, newL], by simp [newS, newL], by simp [newS, newL], by simp [newS, newL]⟩
theorem run_len : ∀ (ks : List Ky) (s : LW), (runL s ks).2.length = ks.length
  | [], _ => rfl
  | k :: ks, s => by simp [runL, run_len ks]
theorem run_take : ∀ (n : Nat) (ks : List Ky) (s : LW), (runL s (ks.take n)).2 = (runL s ks).2.take n
  | 0, ks, s => by simp [runL]
  | n + 1, [], s => by simp [runL]
  | n + 1, k :: ks, s => by simp [runL, run_take n ks]
theorem doks_ups {xs : List D} : ∀ (k n : Nat), dOks xs n = true → dOks xs (n + k) = true
  | 0, n, h => h
  | k + 1, n, h => doks_up xs (n + k) (doks_ups k n h)
theorem ne_eq {d e : D} {m : Store} {R : KD} (h1 : rv m d = rv m e) (h2 : dOk (rv m e) 60 = true) (hs : ∀ s, rv m e ≠ .str s) (hi : ∀ i, rv m e ≠ .int i) (h : R (.bl false) m) : wNe d e m R := by
  have key : dOk (rv m d) 60 = true ∧ dOk (rv m e) 60 = true ∧ (fun u m' => match u with | .bl b => R (.bl (!b)) m' | _ => False) (D.bl (eqD (rv m d) (rv m e))) m := by
    refine ⟨by rw [h1]; exact h2, h2, ?_⟩
    rw [h1, eqD_refl _ _ h2]; exact h
  unfold wNe wEq
  split
  · exact absurd rfl (hs _)
  · exact absurd rfl (hi _)
  · exact key
theorem stand_ok (s : LW) : dOk (standD s) 60 = true := by
  have h : ∀ (ts : List Int) (n : Nat), dOks (ts.map D.int) n = true := fun ts n => by
    induction ts with
    | nil => rfl
    | cons a l ih => rw [List.map_cons, dOks, ih]; rfl
  have ht : dOk (.tup ((tabsS s.tabs).map .int)) 59 = true := by rw [dOk]; exact h _ _
  simp only [standD]
  rw [dOk]
  simp only [dOks, h, ok_col, dOk, Bool.and_true]
theorem cut_take {α : Type} (xs : List α) (n : Nat) : cutL xs none (some (n : Int)) = xs.take n := by
  unfold cutL sIxD
  have h0 : ¬ ((n : Int) < 0) := by omega
  simp [h0]
theorem press_const (s : LW) (k : Ky) : (pressL s k).1.c = s.c ∧ (pressL s k).1.dead = s.dead ∧ (pressL s k).1.dn = s.dn := by
  have on : ∀ q, (onL s q).1.c = s.c ∧ (onL s q).1.dead = s.dead ∧ (onL s q).1.dn = s.dn := fun q => by unfold onL; split <;> exact ⟨rfl, rfl, rfl⟩
  have row : ∀ q b, (rowL s q b).1.c = s.c ∧ (rowL s q b).1.dead = s.dead ∧ (rowL s q b).1.dn = s.dn := fun q b => by unfold rowL; split; exact ⟨rfl, rfl, rfl⟩; split <;> exact ⟨rfl, rfl, rfl⟩
  have ink : ∀ b c, (inkL s b c).1.c = s.c ∧ (inkL s b c).1.dead = s.dead ∧ (inkL s b c).1.dn = s.dn := fun b c => by unfold inkL; split; exact ⟨rfl, rfl, rfl⟩; simp only; split <;> exact ⟨rfl, rfl, rfl⟩
  show (actL s k).1.c = s.c ∧ (actL s k).1.dead = s.dead ∧ (actL s k).1.dn = s.dn
  cases k with
  | sign c => exact ink _ _
  | lift c => exact ink _ _
  | blank => exact on _
  | half => exact on _
  | tab => exact on _
  | back => show (stepL1 s .back).1.c = _ ∧ (stepL1 s .back).1.dead = _ ∧ (stepL1 s .back).1.dn = _; simp only [stepL1]; split <;> exact ⟨rfl, rfl, rfl⟩
  | ret => exact row _ _
  | up => exact row _ _
  | down => exact row _ _
  | left => show (turnL s .left).1.c = _ ∧ (turnL s .left).1.dead = _ ∧ (turnL s .left).1.dn = _; simp only [turnL]; split <;> exact ⟨rfl, rfl, rfl⟩
  | right => show (turnL s .right).1.c = _ ∧ (turnL s .right).1.dead = _ ∧ (turnL s .right).1.dn = _; simp only [turnL]; split <;> exact ⟨rfl, rfl, rfl⟩
  | clear => show (turnL s .clear).1.c = _ ∧ (turnL s .clear).1.dead = _ ∧ (turnL s .clear).1.dn = _; simp only [turnL]; split <;> exact ⟨rfl, rfl, rfl⟩
  | _ => exact ⟨rfl, rfl, rfl⟩
theorem run_const : ∀ (ks : List Ky) (s : LW), (runL s ks).1.c = s.c ∧ (runL s ks).1.dead = s.dead ∧ (runL s ks).1.dn = s.dn
  | [], _ => ⟨rfl, rfl, rfl⟩
  | k :: ks, s => by
    have h1 := press_const s k
    have h2 := run_const ks (pressL s k).1
    exact ⟨h2.1.trans h1.1, h2.2.1.trans h1.2.1, h2.2.2.trans h1.2.2⟩
theorem run_snoc (ks : List Ky) (k : Ky) (s : LW) : (runL s (ks ++ [k])).1 = (pressL (runL s ks).1 k).1 := by
  induction ks generalizing s with
  | nil => rfl
  | cons a ks ih => exact ih _
theorem cut_drop {α : Type} (xs : List α) {n : Nat} (h : n ≤ xs.length) : cutL xs (some (n : Int)) none = xs.drop n := by
  unfold cutL sIxD
  have h0 : ¬ ((n : Int) < 0) := by omega
  simp [h0]
  have : min n xs.length = n := by omega
  rw [this, List.take_of_length_le (by simp)]
end DL
end
section
set_option maxHeartbeats 0
namespace DL
open PySem
theorem run_sm : ∀ {ks : List Ky} {s : LW} {n : Nat}, (∀ k ∈ ks, kyOk k) → s.sm n → (runL s ks).1.sm (n + ks.length)
  | [], s, n, _, h => h
  | k :: ks, s, n, hk, h => by
    have := run_sm (fun k' h' => hk k' (List.mem_cons_of_mem _ h')) (press_sm (hk k List.mem_cons_self) h)
    rw [List.length_cons, show n + (ks.length + 1) = n + 1 + ks.length by omega]
    exact this
theorem mkB_alike (a b : Mk) : alikeD (mkB a) (mkB b) = true := by
  have : ∀ x y : Bool, alikeD (colD x) (colD y) = true := fun x y => by cases x <;> cases y <;> rfl
  simp [mkB, alikeD_cons, alikeD_int, alikeD_str, alikeD_nil, this]
theorem ok_mkB (k : Mk) (n : Nat) (h : k.sign < 128) : dOk (mkB k) (n + 1) = true := by
  have := ok_mk k n h
  simp only [mkD] at this
  simp only [mkB]
  rw [dOk, dOks] at this
  rw [dOk]
  simpa using (Bool.and_eq_true _ _ ▸ this).2
theorem mk_cut (k : Mk) : cutL [D.int k.n, .int k.row, .int k.place, ch k.sign, colD k.red] (some 1) none = [.int k.row, .int k.place, ch k.sign, colD k.red] := cut_drop (n := 1) [D.int k.n, .int k.row, .int k.place, ch k.sign, colD k.red] (by simp)
variable {A : Ad} (hA : AdOk A)
include hA
theorem dt_marks_of : ∀ ds m R x, ph_marks_of A ds m R x → psi_marks_of A (startD 9 ds) m (endD R x) := by
  rintro ds m R x ⟨c, dead, dn, ks, rfl, hM, hk, hl, h⟩
  have L : LIM = 16777216 := rfl
  simp [psi_marks_of]
  refine ⟨c, dead, dn, ks, rfl, hM, hk, hl, fun p m' hW => ?_⟩
  obtain ⟨ta, ma, ra, W⟩ := hW
  have hok : (runL (newS c dead dn) ks).1.ok := ok_run (new_ok hM)
  have hsm := run_sm hk (new_sm c dead dn)
  unfold marksS at h
  generalize (runL (newS c dead dn) ks).1 = s at *
  generalize (runL (newS c dead dn) ks).2 = T at *
  have hlm : s.marks.length ≤ 4000 := by have := hsm.m; omega
  simp [gf_marks W.hp, asI, W.hm]
  refine lc_map (G := fun m' => m' ma = some (.lst (s.marks.map mkD))) mkD (fun k => .tup [.int k.row, .int k.place, .int k.n, mkB k]) W.hm s.marks [] _ (by simp; omega) (fun k hk K1 hK => ?_) ?_
  · have i1 : ∀ K : KD, wIx (mkD k) (.int 1) m' K = K (.int k.row) m' := fun _ => rfl
    have i2 : ∀ K : KD, wIx (mkD k) (.int 2) m' K = K (.int k.place) m' := fun _ => rfl
    have i0 : ∀ K : KD, wIx (mkD k) (.int 0) m' K = K (.int k.n) m' := fun _ => rfl
    have i3 : ∀ K : KD, wCut false (mkD k) (some 1) none m' K = K (mkB k) m' := fun K => by
      show K (.tup (cutL [D.int k.n, .int k.row, .int k.place, ch k.sign, colD k.red] (some 1) none)) m' = _
      rw [mk_cut]; rfl
    simp [i1, i2, i0, i3]
    exact ⟨by decide, hK⟩
  · rw [List.nil_append]
    have hk60 : ∀ k ∈ s.marks, dOk (mkB k) 58 = true := fun k hk => ok_mkB k 57 (hsm.g k hk)
    refine sort_by (fun k : Mk => D.tup [.int k.row, .int k.place, .int k.n, mkB k]) mkLt s.marks rfl (fun k hk => ?_) (fun a ha b hb => ?_) (.inl fun d hd => ?_) (fun a ha b hb => key_lt hok.mn hk60 (fun a _ b _ => mkB_alike a b) a ha b hb) fun ys hp hs => ?_
    · rw [dOk, dOks, dOks, dOks, dOks, hk60 k hk]; rfl
    · simp [alikeD_cons, alikeD_int, alikeD_nil, mkB_alike]
    · obtain ⟨k, _, rfl⟩ := List.mem_map.mp hd; exact ⟨_, _, rfl⟩
    · have e := sortM_is hok.mn hp hs
      subst e
      simp [asI]
      have hlen : (sortM s.marks).length = s.marks.length := (sortM_perm _).length_eq
      have key : ∀ (xs : List Mk) (acc : List D) (K : List D → Store → Prop) (v0 v1 v2 v3 v4 : Option D), acc.length + xs.length ≤ LIM → K (acc ++ xs.map mkD) m' → wLcL (fun _ => True) [6, 7, 8, 5] (gTp [6, 7, 8, 5]) wYes (wOp (wAdd false) (wTup (wCons (wVar 8) wNil)) (wVar 5)) [v0, v1, v2, v3, v4, none, none, none, none] (xs.map fun k => D.tup [.int k.row, .int k.place, .int k.n, mkB k]) acc m' K := by
        intro xs
        induction xs with
        | nil => intro acc K v0 v1 v2 v3 v4 _ hK; exact ⟨trivial, by simpa using hK⟩
        | cons k xs ih =>
          intro acc K v0 v1 v2 v3 v4 hl hK
          simp only [List.length_cons] at hl
          refine ⟨trivial, ?_⟩
          have e1 : ∀ K : KD, wAdd false (.tup [.int k.n]) (mkB k) m' K = (5 ≤ LIM ∧ K (mkD k) m') := fun K => rfl
          simp [e1]
          refine ⟨by decide, by decide, by omega, ih (acc ++ [mkD k]) K v0 v1 v2 v3 v4 (by simp; omega) (by simpa using hK)⟩
      refine key (sortM s.marks) [] _ _ _ _ _ _ (by rw [hlen]; simp; omega) ?_
      exact ⟨m, W.sub, h⟩
theorem dt_strikes : ∀ ds m R x, ph_strikes A ds m R x → psi_strikes A (startD 3 ds) m (endD R x) := by
  rintro ds m R x ⟨dm, dk, rfl, h⟩
  have L : LIM = 16777216 := rfl
  simp [psi_strikes]
  refine ⟨dm, dk, rfl, h.imp fun c dead dn ks e hM e2 hk hl hR => ?_⟩
  subst e e2
  clear h
  have h := hR
  have hk' : ∀ k ∈ ks, kyOk k := fun k hk' => kyG_ok (hk k hk')
  have hsm := run_sm hk' (new_sm c dead dn)
  refine ⟨c, dead, dn, ks, rfl, hM, hk', hl, ?_⟩
  simp only [asI]
  have hlen : (marksS c dead dn ks).length ≤ 4000 := by
    have := hsm.m
    have e : (marksS c dead dn ks).length = _ := (sortM_perm _).length_eq
    omega
  refine lc_map (G := fun _ => True) mkD mkB trivial (marksS c dead dn ks) [] _ (by simp; omega) (fun k hk K1 hK => ?_) (by simpa using h)
  have i3 : ∀ K : KD, wCut false (mkD k) (some 1) none m K = K (mkB k) m := fun K => by
    show K (.tup (cutL [D.int k.n, .int k.row, .int k.place, ch k.sign, colD k.red] (some 1) none)) m = _
    rw [mk_cut]; rfl
  simp [i3]
  exact hK
end DL
end
section
set_option maxHeartbeats 0
namespace DL
open PySem PySem.Spec PyProof.Rows L2
section
variable {P : Program} {w : World}
def Says (P : Program) (w : World) (s : Shared) (c : Sem Bool) (b : Bool) : Prop := ∀ (A : Around) (E : Value → Shared → Prop) (Q : Bool → Shared → Prop), Q b s → wpAny (model P w) A c Q E s
theorem says_pure {s : Shared} (b : Bool) : Says P w s (pure b) b := fun _ _ _ h => wpAny_pure h
mutual
theorem hbv {s : Shared} : ∀ (k : NestedKey) (v : Value) (n : Nat), NestedIs s.heap k v → ∃ b, Says P w s (hashByValue n v) b
  | .none, _, n, x => by cases x; exact ⟨true, by cases n <;> exact says_pure _⟩
  | .num i, _, n, x => by cases x <;> exact ⟨true, by cases n <;> exact says_pure _⟩
  | .text y, _, n, x => by cases x; exact ⟨false, by cases n <;> exact says_pure _⟩
  | .tup ks, _, 0, x => by cases x; exact ⟨false, says_pure _⟩
  | .tup ks, _, n + 1, x => by
    cases x with
    | @tup a o vs m _ hg hc hd hk =>
      obtain ⟨b, hb⟩ := hbvs ks vs.toList n hk
      refine ⟨b, fun A E Q h => ?_⟩
      unfold hashByValue
      refine wpAny_bind (wpAny_specialOf ⟨o, hg, hc⟩ F.slot_tuple_hash.lookup ?_)
      show wpAny _ _ (seqItems? (.ref a) >>= _) _ _ s
      refine wpAny_bind (wpAny_seqItems hg hd ?_)
      refine wpAny_bind ?_
      show wpAny _ _ (forIn vs _ _) _ _ s
      rw [← Array.forIn_toList]
      refine hb A E _ ?_
      cases b
      · exact fun r e => by simp only [e]; exact wpAny_pure h
      · exact fun r e => by simp only [e]; exact wpAny_pure h
theorem hbvs {s : Shared} : ∀ (ks : List NestedKey) (vs : List Value) (n : Nat), NestedAll s.heap ks vs → ∃ b, ∀ (A : Around) (E : Value → Shared → Prop) (Q : Option Bool × Unit → Shared → Prop),
    (∀ r : Option Bool × Unit, r.1 = (if b = true then none else some false) → Q r s) → wpAny (model P w) A (forIn vs ((none, ()) : Option Bool × Unit) fun x r => do
      let c ← hashByValue n x
      if (!c) = true then pure (ForInStep.done (some false, ())) else pure (ForInStep.yield (none, ()))) Q E s
  | [], _, n, x => by cases x; exact ⟨true, fun A E Q h => wpAny_pure (h _ rfl)⟩
  | k :: ks, _, n, x => by
    cases x with
    | cons x1 x2 =>
      obtain ⟨b1, h1⟩ := hbv k _ n x1
      obtain ⟨b2, h2⟩ := hbvs ks _ n x2
      refine ⟨b1 && b2, fun A E Q h => ?_⟩
      rw [List.forIn_cons]
      refine wpAny_bind (wpAny_bind (h1 A E _ ?_))
      cases b1
      · exact wpAny_pure (wpAny_pure (h _ rfl))
      · exact wpAny_pure (h2 A E Q h)
end
mutual
theorem oac {s : Shared} : ∀ (k : NestedKey) (v : Value) (n : Nat), NestedIs s.heap k v → k.depth ≤ n → Says P w s (ofAClassStatement n v) false
  | .none, _, n, x, _ => by cases x; cases n <;> exact says_pure _
  | .num i, _, n, x, _ => by cases x <;> cases n <;> exact says_pure _
  | .text y, _, n, x, _ => by cases x; cases n <;> exact says_pure _
  | .tup ks, _, 0, x, h => by simp [NestedKey.depth] at h
  | .tup ks, _, n + 1, x, hn => by
    cases x with
    | @tup a o vs m _ hg hc hd hk =>
      simp only [NestedKey.depth] at hn
      have hb := oacs ks vs.toList n hk (by omega)
      intro A E Q h
      unfold ofAClassStatement
      refine wpAny_bind (wpAny_typeOf ⟨o, hg, hc⟩ ?_)
      have e : (("tuple" : String) == "tuple") = true := by decide
      dsimp only
      simp only [e, if_true, Bool.not_true, Bool.false_eq_true, if_false]
      try refine wpAny_bind (wpAny_pure ?_)
      try simp only [Bool.not_true, Bool.false_eq_true, if_false]
      show wpAny _ _ (seqItems? (.ref a) >>= _) _ _ s
      refine wpAny_bind (wpAny_seqItems hg hd ?_)
      dsimp only
      refine wpAny_bind ?_
      show wpAny _ _ (forIn vs _ _) _ _ s
      rw [← Array.forIn_toList]
      exact hb A E _ fun r e => by simp only [e]; exact wpAny_pure h
theorem oacs {s : Shared} : ∀ (ks : List NestedKey) (vs : List Value) (n : Nat), NestedAll s.heap ks vs → NestedKey.depthAll ks ≤ n → ∀ (A : Around) (E : Value → Shared → Prop) (Q : Option Bool × Unit → Shared → Prop),
    (∀ r : Option Bool × Unit, r.1 = none → Q r s) → wpAny (model P w) A (forIn vs ((none, ()) : Option Bool × Unit) fun x r => do
      let c ← ofAClassStatement n x
      if c = true then pure (ForInStep.done (some true, ())) else pure (ForInStep.yield (none, ()))) Q E s
  | [], _, n, x, _ => by cases x; exact fun A E Q h => wpAny_pure (h _ rfl)
  | k :: ks, _, n, x, hn => by
    simp only [NestedKey.depthAll] at hn
    cases x with
    | cons x1 x2 =>
      have h1 := oac k _ n x1 (by omega)
      have h2 := oacs ks _ n x2 (by omega)
      intro A E Q h
      rw [List.forIn_cons]
      exact wpAny_bind (wpAny_bind (h1 A E _ (wpAny_pure (h2 A E Q h))))
end
def IsN (h : Heap) (k : NestedKey) (a : Addr) : Prop := NestedIs h k (.ref a) ∧ k.depth ≤ 8
theorem IsN.keep {h h' : Heap} {k : NestedKey} {a : Addr} (x : IsN h k a) (hk : ∀ b o vs n, h.get? b = some o → o.data = .seq vs n → h'.get? b = some o) : IsN h' k a := ⟨NestedIs.at hk k _ x.1, x.2⟩
theorem IsN.quiet {s : Shared} {k : NestedKey} {a : Addr} (x : IsN s.heap k a) : Says P w s (eqIsQuiet 8 (.ref a)) true := fun A E Q h => quiet_key k _ 8 s x.1 x.2 A E Q h
theorem seenN {s : Shared} {k : NestedKey} {b : Addr} (hk : IsN s.heap k b) {ys : List Value} (hy : ∀ y ∈ ys, ∃ k' c, y = Value.ref c ∧ IsN s.heap k' c) : Says P w s (searchCouldBeSeen (.ref b) ys) false := by
  intro A E Q h
  unfold searchCouldBeSeen
  refine wpAny_bind (wpAny_forIn_list _ (fun rest r s' => r.1 = none ∧ s' = s ∧ ∀ y ∈ rest, ∃ k' c, y = Value.ref c ∧ IsN s.heap k' c) _ ?_ ?_ _ _ ⟨rfl, rfl, hy⟩)
  · rintro v rest r s' ⟨hr, e, hall⟩
    subst e
    obtain ⟨k', c, rfl, hc⟩ := hall v List.mem_cons_self
    have more : ∀ y ∈ rest, ∃ k' c, y = Value.ref c ∧ IsN s'.heap k' c := fun u hu => hall u (List.mem_cons_of_mem _ hu)
    dsimp only
    split
    · exact wpAny_pure ⟨rfl, rfl, more⟩
    · refine wpAny_bind (hk.quiet A E _ ?_)
      simp only [Bool.not_true, Bool.false_eq_true, if_false]
      refine wpAny_bind (hc.quiet A E _ ?_)
      simp only [Bool.not_true, Bool.false_eq_true, if_false]
      refine wpAny_bind (oac k _ 8 hk.1 hk.2 A E _ ?_)
      simp only [Bool.false_eq_true, if_false]
      refine wpAny_bind (oac k' _ 8 hc.1 hc.2 A E _ ?_)
      simp only [Bool.false_eq_true, if_false]
      exact wpAny_pure ⟨rfl, rfl, more⟩
  · rintro ⟨r1, r2⟩ s' ⟨hr, e, _⟩
    simp only at hr
    subst hr e
    exact wpAny_pure h
def rowN (w : World) (p : Addr × NestedKey) : Int × Value := (p.2.hash w, .ref p.1)
abbrev hsN (w : World) (L : List (Addr × NestedKey)) : List Int := L.map fun p => p.2.hash w
structure SetN (w : World) (h : Heap) (a : Addr) (L : List (Addr × NestedKey)) (es : Array (Int × Value)) (ep : Nat) (t : SetTable) : Prop where
  ob : ∃ o, h.get? a = some o ∧ o.ExactSet ∧ o.data = .set es ep t
  rows : es.toList = L.map (rowN w)
  tab : TabOk t (hsN w L)
  nd : (L.map (·.2)).Nodup
  key : ∀ p ∈ L, IsN h p.2 p.1
  led : w.params.followText "set-order" = true ∨ t.led = true
  room : L.length * 5 < t.mask * 3
  few : L.length ≤ 76
theorem rows_size {es : Array (Int × Value)} {L : List (Addr × NestedKey)} (h : es.toList = L.map (rowN w)) : es.size = L.length := by
  rw [← Array.length_toList, h, List.length_map]
theorem rows_get {es : Array (Int × Value)} {L : List (Addr × NestedKey)} (h : es.toList = L.map (rowN w)) {i : Nat} {p : Addr × NestedKey} (hp : L[i]? = some p) : es[i]? = some (rowN w p) := by
  rw [← Array.getElem?_toList, h, List.getElem?_map, hp]; rfl
theorem fitsN {es : Array (Int × Value)} {L : List (Addr × NestedKey)} {t : SetTable} (h : es.toList = L.map (rowN w)) (T : TabOk t (hsN w L)) (hl : L.length ≤ t.mask) : t.fits es.size = true := by
  have h1 := T.sz
  rw [List.length_map] at h1
  have h2 := rows_size h
  unfold SetTable.fits SetTable.fill
  rw [T.dm, Bool.and_eq_true, beq_iff_eq, decide_eq_true_eq]
  exact ⟨by omega, by show t.place.size + 0 ≤ t.mask; omega⟩
variable {A : Around} {E : Value → Shared → Prop} {s : Shared} {a : Addr} {L : List (Addr × NestedKey)} {es : Array (Int × Value)} {ep : Nat} {t : SetTable}
theorem SetN.fits (R : SetN w s.heap a L es ep t) : t.fits es.size = true := fitsN R.rows R.tab (by have := R.room; omega)
theorem nth_dummy (m : Nat) : ∀ (n : Nat) (p : SetTable.Probe), p.dummy = none → (nth m p n).dummy = none
  | 0, _, h => h
  | n + 1, p, h => nth_dummy m n (adv m p) (by unfold adv; split <;> exact h)
abbrev st0 (t : SetTable) (H : Int) : SetTable.Probe := runAt t.mask (SetTable.bits H % (t.mask + 1)) (SetTable.bits H)
theorem searchN (R : SetN w s.heap a L es ep t) {x : Addr} {k : NestedKey} (hx : IsN s.heap k x) (hu : A.units + 8 < cLine) {K : Nat} (hf : K < 10 * SetTable.turns t.mask)
    (hK : way t.mask (k.hash w) K ∉ t.place.toList) (hb : ∀ c, c < K → way t.mask (k.hash w) c ∈ t.place.toList) {Q : SetFound → Shared → Prop}
    (yes : k ∈ L.map (·.2) → Q (.there none) s) (no : k ∉ L.map (·.2) → Q (.free (way t.mask (k.hash w) K) false) s) :
    ∀ (f c : Nat) (st : Option SetTable.Probe), st.getD (t.probeStart (k.hash w)) = nth t.mask (st0 t (k.hash w)) c → c ≤ K → K < f + c →
      (∀ (i : Nat) (p : Addr × NestedKey), L[i]? = some p → p.2 = k → ∃ d, c ≤ d ∧ d < K ∧ t.place.toList[i]? = some (way t.mask (k.hash w) d)) →
      wpAny (model P w) A (setSearchFrom a (.ref x) (k.hash w) true f st) Q E s := by
  obtain ⟨o, ho, hex, hd⟩ := R.ob
  have gw : ¬ t.gaveWay = true := by
    unfold SetTable.gaveWay
    rw [mask_odd R.tab.mok]; decide
  intro f
  induction f with
  | zero => intro c st _ h1 h2 _; omega
  | succ f ih =>
    intro c st hst hc hfu hre
    rw [setSearchFrom_succ]
    refine wpAny_bind (wpAny_setState_of ho hd R.fits ?_)
    dsimp only
    refine wp_if_neg gw ?_
    try refine wpAny_bind (wpAny_pure ?_)
    have sh : ∀ q, nth t.mask (nth t.mask (st0 t (k.hash w)) c) q = nth t.mask (st0 t (k.hash w)) (c + q) := fun q => (nth_add t.mask c _ q).symm
    have sj : ∀ q, (nth t.mask (nth t.mask (st0 t (k.hash w)) c) q).j = way t.mask (k.hash w) (c + q) := fun q => by rw [sh]
    have eK : c + (K - c) = K := by omega
    have spec := go_spec t R.tab.ris R.tab.dm (fun i => (es[i]?.map (·.1)).getD 0) (k.hash w) (10 * SetTable.turns t.mask) (K - c) _ (nth_dummy t.mask c (st0 t (k.hash w)) rfl) (by omega)
      (fun q hq => by rw [sj]; exact hb _ (by omega)) (by rw [sj, eK]; exact hK)
    have hat : ∀ (i : Nat) (p : Addr × NestedKey), L[i]? = some p → (es[i]?.map (·.1)).getD 0 = p.2.hash w := fun i p hp => by rw [rows_get R.rows hp]; rfl
    rcases spec with ⟨q, i, hq, hi, hh, hno, hpr⟩ | ⟨hno, hpr⟩
    · rw [sj] at hi
      have hpr' : t.probe (fun i => (es[i]?.map (·.1)).getD 0) (k.hash w) (st.getD (t.probeStart (k.hash w))) = some (.candidate (way t.mask (k.hash w) (c + q)) i (nth t.mask (st0 t (k.hash w)) (c + (q + 1)))) := by
        rw [hst, ← sj, ← sh]; exact hpr
      rw [hpr']
      dsimp only
      obtain ⟨p, hp⟩ : ∃ p, L[i]? = some p := by
        have h1 : i < t.place.toList.length := (List.getElem?_eq_some_iff.mp hi).1
        have h2 := R.tab.sz
        rw [List.length_map] at h2
        rw [Array.length_toList] at h1
        exact ⟨_, List.getElem?_eq_getElem (by omega)⟩
      have hm : p ∈ L := List.mem_of_getElem? hp
      have rest : wpAny (model P w) A (searchRest a (.ref x) (k.hash w) true f es t (way t.mask (k.hash w) (c + q)) i (nth t.mask (st0 t (k.hash w)) (c + (q + 1)))) Q E s := by
        unfold searchRest
        rw [rows_get R.rows hp]
        dsimp only [rowN]
        refine wpAny_bind (wpAny_holding ((nestedKind P w).eqBool hu (R.key p hm) hx ?_))
        refine wpAny_bind (wpAny_setState_of ho hd R.fits ?_)
        dsimp only
        by_cases hkk : p.2 = k
        · exact wp_if_pos (by simp [hkk]) (wpAny_pure (yes (List.mem_map.mpr ⟨p, hm, hkk⟩)))
        · have hs : t.slot (way t.mask (k.hash w) (c + q)) = .live i := slot_live R.tab.ris hi
          refine wp_if_neg (by simp [hkk]) ?_
          try refine wpAny_bind (wpAny_pure ?_)
          rw [sameMem]
          dsimp only
          simp only [if_true, hs, rows_get R.rows hp, rowN]
          refine wpAny_bind (wpAny_isSame_ref_self (wpAny_bind (wpAny_pure ?_)))
          simp only [if_true]
          refine wp_if_neg (by simp [hkk]) (ih (c + (q + 1)) _ rfl (by omega) (by omega) fun j r hj hr => ?_)
          obtain ⟨d, d1, d2, d3⟩ := hre j r hj hr
          refine ⟨d, ?_, d2, d3⟩
          rcases Nat.lt_trichotomy d (c + q) with z | z | z
          · exact absurd ((hat j r hj).trans (by rw [hr])) (hno (d - c) j (by omega) (by rw [sj, show c + (d - c) = d by omega]; exact d3))
          · subst z
            have h0 := slot_live R.tab.ris d3
            rw [hs] at h0
            injection h0 with h0
            rw [← h0, hp] at hj
            cases hj
            exact absurd hr hkk
          · omega
      by_cases hl : t.led = true
      · refine wp_if_neg (by simp [hl]) ?_
        try refine wpAny_bind (wpAny_pure ?_)
        exact rest
      · refine wp_if_pos (by simp [hl]) (wpAny_bind (seenN hx (fun y hy => ?_) A E _ ?_))
        · obtain ⟨e, he, rfl⟩ := List.mem_map.mp hy
          have he1 : e ∈ es ∧ e.1 = k.hash w := by simpa using he
          have he2 : e ∈ es.toList := by simpa using he1.1
          rw [R.rows] at he2
          obtain ⟨r, hr, rfl⟩ := List.mem_map.mp he2
          exact ⟨r.2, r.1, rfl, R.key r hr⟩
        · refine wp_if_neg (by decide) ?_
          try refine wpAny_bind (wpAny_pure ?_)
          exact rest
    · have hpr' : t.probe (fun i => (es[i]?.map (·.1)).getD 0) (k.hash w) (st.getD (t.probeStart (k.hash w))) = some (.empty (way t.mask (k.hash w) K) none) := by
        have e2 : way t.mask (k.hash w) K = (nth t.mask (nth t.mask (st0 t (k.hash w)) c) (K - c)).j := by rw [sj, eK]
        rw [hst, e2]; exact hpr
      rw [hpr']
      dsimp only
      refine wpAny_pure (no fun hm => ?_)
      obtain ⟨r, hr, hk⟩ := List.mem_map.mp hm
      obtain ⟨j, hj, ej⟩ := List.getElem_of_mem hr
      have hj' : L[j]? = some r := by rw [List.getElem?_eq_getElem hj, ej]
      obtain ⟨d, d1, d2, d3⟩ := hre j r hj' hk
      exact hno (d - c) j (by omega) (by rw [sj, show c + (d - c) = d by omega]; exact d3) ((hat j r hj').trans (by rw [hk]))
theorem search1N (R : SetN w s.heap a L es ep t) {x : Addr} {k : NestedKey} (hx : IsN s.heap k x) (hu : A.units + 8 < cLine) {Q : SetFound → Shared → Prop} (yes : k ∈ L.map (·.2) → Q (.there none) s)
    (no : ∀ K, k ∉ L.map (·.2) → way t.mask (k.hash w) K ∉ t.place.toList → (∀ c, c < K → way t.mask (k.hash w) c ∈ t.place.toList) → Q (.free (way t.mask (k.hash w) K) false) s) :
    wpAny (model P w) A (setSearch a (.ref x) (k.hash w) true) Q E s := by
  have hroom := R.room
  obtain ⟨K, hf, hK, hb⟩ := R.tab.first (by rw [List.length_map]; omega) (k.hash w)
  have big : K < 100000 := by
    have : 10 * SetTable.turns t.mask ≤ 1420 := by
      unfold SetTable.turns
      rcases R.tab.mok with e | e | e <;> omega
    omega
  refine searchN R hx hu hf hK hb yes (fun z => no K z hK hb) 100000 0 none rfl (Nat.zero_le _) big fun i p hp hk => ?_
  have hi : (hsN w L)[i]? = some (k.hash w) := by rw [List.getElem?_map, hp, ← hk]; rfl
  have hl : i < t.place.toList.length := by
    have h1 : i < L.length := (List.getElem?_eq_some_iff.mp hp).1
    have h2 := R.tab.sz
    rw [List.length_map] at h2
    rw [Array.length_toList]; omega
  have hj := List.getElem?_eq_getElem hl
  obtain ⟨d, hd, e⟩ := R.tab.before hK hi hj
  exact ⟨d, Nat.zero_le _, hd, by rw [hj, e]⟩
theorem IsN.same {h h' : Heap} {k : NestedKey} {b : Addr} {o : Obj} (x : IsN h k b) (ho : h.get? a = some o) (hd : o.data = .set es ep t) (hs : Heap.SameBut a h h') : IsN h' k b :=
  x.keep fun c u vs n hc hv => (hs.2 c fun z => by subst z; rw [ho] at hc; cases hc; rw [hd] at hv; cases hv).trans hc
theorem rows_order {order : Array Nat} (hr : es.toList = L.map (rowN w)) (hp : order.toList.Perm (List.range L.length)) :
    ∃ L2, (order.filterMap (es[·]?)).toList = L2.map (rowN w) ∧ L2.Perm L ∧ hsN w L2 = order.toList.map fun i => (es.map (·.1)).getD i 0 := by
  have main : ∀ l : List Nat, (∀ i ∈ l, i < L.length) → l.filterMap (fun i => es[i]?) = (l.filterMap fun i => L[i]?).map (rowN w) ∧ hsN w (l.filterMap fun i => L[i]?) = l.map fun i => (es.map (·.1)).getD i 0 := by
    intro l
    induction l with
    | nil => exact fun _ => ⟨rfl, rfl⟩
    | cons i l ih =>
      intro h
      obtain ⟨e1, e2⟩ := ih fun j hj => h j (List.mem_cons_of_mem _ hj)
      have hil := h i List.mem_cons_self
      have hi := List.getElem?_eq_getElem hil
      have hE := rows_get hr hi
      refine ⟨?_, ?_⟩
      · rw [List.filterMap_cons_some hE, List.filterMap_cons_some hi, e1]; rfl
      · rw [List.filterMap_cons_some hi]
        show _ :: hsN w _ = _ :: _
        rw [e2]
        congr 1
        have : (es.map (·.1))[i]? = some (L[i].2.hash w) := by rw [Array.getElem?_map, hE]; rfl
        simp [Array.getD_eq_getD_getElem?, this]
  obtain ⟨e1, e2⟩ := main order.toList fun i hi => List.mem_range.mp (hp.mem_iff.mp hi)
  refine ⟨_, by simpa using e1, ?_, e2⟩
  have all : (List.range L.length).filterMap (fun i => L[i]?) = L := by
    apply List.ext_getElem?
    intro i
    have key : ∀ n, n ≤ L.length → (List.range n).filterMap (fun i => L[i]?) = L.take n := by
      intro n
      induction n with
      | zero => exact fun _ => by simp
      | succ n ih =>
        intro hn
        rw [List.range_succ, List.filterMap_append, ih (by omega), List.filterMap_cons_some (List.getElem?_eq_getElem (show n < L.length by omega)), List.take_succ, List.getElem?_eq_getElem (show n < L.length by omega)]; rfl
    rw [key _ (Nat.le_refl _), List.take_length]
  have h := hp.filterMap (fun i => L[i]?)
  rw [all] at h
  exact h
theorem relayN {o : Obj} (ho : s.heap.get? a = some o) (hex : o.ExactSet) (hd : o.data = .set es ep t) (hr : es.toList = L.map (rowN w)) (hsz : t.place.size = es.size) (hdm : t.dummies = #[]) (hfl : es.size ≤ t.mask)
    (nd : (L.map (·.2)).Nodup) (hk : ∀ p ∈ L, IsN s.heap p.2 p.1) (ld : w.params.followText "set-order" = true ∨ t.led = true) (few : L.length ≤ 76) {wanted M : Nat}
    (hw : SetTable.sizeAbove wanted = M + 1) (hM : MaskOk M) (hn : L.length * 5 < M * 3) {Q : Unit → Shared → Prop}
    (hQ : ∀ h' L' es' ep' t', Heap.SameBut a s.heap h' → SetN w h' a L' es' ep' t' → L'.Perm L → Q () { s with heap := h' }) : wpAny (model P w) A (setRelay a wanted) Q E s := by
  have hsl := rows_size hr
  have hM2 : M ≤ 127 := by rcases hM with e | e | e <;> omega
  have hfits : t.fits es.size = true := by
    unfold SetTable.fits SetTable.fill
    rw [hdm, Bool.and_eq_true, beq_iff_eq, decide_eq_true_eq]
    exact ⟨hsz, by show t.place.size + 0 ≤ t.mask; omega⟩
  obtain ⟨t', order, e, hp, T, em, el, _, _⟩ := relaid_ok t (hs := es.map (·.1)) (wanted := wanted) (M := M) (by omega) hM (by rw [Array.size_map, hsl]; omega)
  rw [Array.size_map, hsl] at hp
  obtain ⟨L2, r1, r2, r3⟩ := rows_order hr hp
  rw [← r3] at T
  have hs2 : (order.filterMap (es[·]?)).size = es.size := by rw [rows_size r1, r2.length_eq, hsl]
  rw [setRelay_eq]
  refine wpAny_bind (wpAny_setState_of ho hd hfits ?_)
  dsimp only
  refine wp_if_neg (by rw [sizeLine_eq, hw]; omega) ?_
  try refine wpAny_bind (wpAny_pure ?_)
  rw [e]
  dsimp only
  refine wpAny_bind (wp_if_neg (by rw [hs2]; simp) ?_)
  try refine wpAny_bind (wpAny_pure ?_)
  refine wpAny_pure ?_
  dsimp only
  have sb : Heap.SameBut a s.heap (s.heap.update a (Obj.putSet (order.filterMap (es[·]?)) t')) := Heap.SameBut.update ..
  refine wpAny_storeSet_of ho hd (hQ _ L2 (order.filterMap (es[·]?)) (ep + 1) t' sb ?_ r2) (by rw [hs2, hsl, sizeLine_eq]; omega)
  exact ⟨⟨_, store_at ho hd, ⟨hex.1, hex.2.1, hex.2.2⟩, rfl⟩, r1, T, (r2.map (·.2)).nodup_iff.mpr nd, fun p hpm => (hk p (r2.mem_iff.mp hpm)).same ho hd sb, by rw [el]; exact ld, by rw [r2.length_eq, em]; exact hn, by rw [r2.length_eq]; exact few⟩
theorem addN (R : SetN w s.heap a L es ep t) {x : Addr} {k : NestedKey} (hx : IsN s.heap k x) (hu : A.units + 8 < cLine) (hfew0 : k ∉ L.map (·.2) → L.length + 1 ≤ 76) {Q : Bool → Shared → Prop}
    (hQ : ∀ b h' L' es' ep' t', Heap.SameBut a s.heap h' → SetN w h' a L' es' ep' t' → (k ∈ L.map (·.2) → L' = L) → (k ∉ L.map (·.2) → L'.Perm ((x, k) :: L)) → Q b { s with heap := h' }) :
    wpAny (model P w) A (setAddHashed a (.ref x) (k.hash w)) Q E s := by
  obtain ⟨o, ho, hex, hd⟩ := R.ob
  have hsl := rows_size R.rows
  have hroom := R.room
  unfold setAddHashed
  refine wpAny_holding ?_
  rw [show (100000 : Nat) = 99999 + 1 from rfl, setAddHashedIn_succ]
  refine wpAny_bind (wpAny_setState_of ho hd R.fits ?_)
  dsimp only
  refine wp_if_neg (by simp [byScan, Value.scannable]) ?_
  try refine wpAny_bind (wpAny_pure ?_)
  refine wpAny_bind (search1N R hx hu (fun hm => wpAny_pure (hQ false s.heap L es ep t (Heap.SameBut.refl a s.heap) R (fun _ => rfl) fun z => absurd hm z)) fun K hm hK hb => ?_)
  dsimp only
  have hfew := hfew0 hm
  refine wpAny_bind (wpAny_setState_of ho hd R.fits ?_)
  dsimp only
  obtain ⟨q1, q2, q3, q4, q5, q6, q7, q8, q9⟩ := R.tab.put hK hb
  generalize hpt : t.put (way t.mask (k.hash w) K) = pt at q1 q3 q4 q5 q6 q7 q8 q9 ⊢
  obtain ⟨t1, p⟩ := pt
  dsimp only at q1 q3 q4 q5 q6 q7 q8 q9 ⊢
  subst q1
  generalize hpp : SetTable.below t.place (way t.mask (k.hash w) K) = p at q2 q3 ⊢
  have hin : (SetTable.insertAt es p (k.hash w, Value.ref x)).toList = (L.take p ++ (x, k) :: L.drop p).map (rowN w) := by
    rw [SetTable.toList_insertAt, R.rows, List.map_append, List.map_cons, List.map_take, List.map_drop]; rfl
  have pm : (L.take p ++ (x, k) :: L.drop p).Perm ((x, k) :: L) := by
    have h : (L.take p ++ (x, k) :: L.drop p).Perm ((x, k) :: (L.take p ++ L.drop p)) := List.perm_middle
    rwa [List.take_append_drop] at h
  have q3' : TabOk t1 (hsN w (L.take p ++ (x, k) :: L.drop p)) := by
    have e : hsN w (L.take p ++ (x, k) :: L.drop p) = (hsN w L).take p ++ k.hash w :: (hsN w L).drop p := by
      simp only [hsN]; rw [List.map_append, List.map_cons, List.map_take, List.map_drop]
    rw [e]; exact q3
  clear q3
  generalize L.take p ++ (x, k) :: L.drop p = L1 at hin pm q3'
  generalize SetTable.insertAt es p (k.hash w, Value.ref x) = es1 at hin ⊢
  have hlen : L1.length = L.length + 1 := pm.length_eq
  have hes : es1.size = L.length + 1 := (rows_size hin).trans hlen
  have nd1 : (L1.map (·.2)).Nodup := (pm.map (·.2)).nodup_iff.mpr (List.nodup_cons.mpr ⟨hm, R.nd⟩)
  rw [List.length_map] at q9
  -- behind the question whether its hash is by value: the table, whatever its word on that
  have go : ∀ (t2 : SetTable), TabOk t2 (hsN w L1) → t2.mask = t.mask → t2.led = t.led → t2.fill = L.length + 1 →
      wpAny (model P w) A (do
        storeSet a es1 t2
        if (!false && t2.tooFull) = true then setRelay a (SetTable.grown (es.size + 1))
        return true) Q E s := by
    intro t2 T m2 l2 f2
    have ld2 : w.params.followText "set-order" = true ∨ t2.led = true := by rw [l2]; exact R.led
    refine wpAny_bind (wpAny_storeSet_of ho hd ?_ (by rw [hes, sizeLine_eq]; omega))
    have sb : Heap.SameBut a s.heap (s.heap.update a (Obj.putSet es1 t2)) := Heap.SameBut.update ..
    have ho1 := store_at (es' := es1) (t' := t2) ho hd
    generalize s.heap.update a (Obj.putSet es1 t2) = h1 at sb ho1 ⊢
    have key1 : ∀ p ∈ L1, IsN h1 p.2 p.1 := fun p hp => by
      rcases List.mem_cons.mp (pm.mem_iff.mp hp) with e | hp
      · rw [e]; exact hx.same ho hd sb
      · exact (R.key p hp).same ho hd sb
    have hfl : t2.tooFull = decide (t2.fill * 5 ≥ t2.mask * 3) := rfl
    by_cases hf : t2.tooFull = true
    · refine wp_if_pos (by rw [hf]; rfl) (wpAny_bind ?_)
      have full : (L.length + 1) * 5 ≥ t.mask * 3 := by
        rw [hfl, decide_eq_true_eq, f2, m2] at hf; exact hf
      rw [hsl]
      have next : ∀ M, SetTable.sizeAbove (SetTable.grown (L.length + 1)) = M + 1 → MaskOk M → (L.length + 1) * 5 < M * 3 →
          wpAny (model P w) A (setRelay a (SetTable.grown (L.length + 1))) (fun _ s' => wpAny (model P w) A (pure true) Q E s') E { s with heap := h1 } := fun M e1 e2 e3 => by
        refine relayN (s := { s with heap := h1 }) (L := L1) ho1 ⟨hex.1, hex.2.1, hex.2.2⟩ rfl hin (by rw [T.sz, List.length_map, hlen, hes]) T.dm (by rw [hes, m2]; rcases R.tab.mok with e | e | e <;> omega) nd1 key1 ld2 (by omega) e1 e2 (by rw [hlen]; exact e3) ?_
        intro h2 L2 es2 ep2 t3 sb2 R2 pm2
        exact wpAny_pure (hQ true h2 L2 es2 ep2 t3 (sb.trans sb2) R2 (fun z => absurd z hm) fun _ => pm2.trans pm)
      rcases R.tab.mok with e | e | e
      · have e2 : L.length = 4 := by omega
        exact next 31 (by rw [e2, size_20]) (.inr (.inl rfl)) (by omega)
      · have e2 : L.length = 18 := by omega
        exact next 127 (by rw [e2, size_76]) (.inr (.inr rfl)) (by omega)
      · omega
    · refine wp_if_neg (by rw [Bool.eq_false_iff.mpr hf]; decide) ?_
      refine wpAny_pure (hQ true h1 L1 es1 (ep + 1) t2 sb ⟨⟨_, ho1, ⟨hex.1, hex.2.1, hex.2.2⟩, rfl⟩, hin, T, nd1, key1, ld2, ?_, by omega⟩ (fun z => absurd z hm) fun _ => pm)
      rw [hfl, decide_eq_true_eq, f2] at hf
      rw [hlen]; omega
  obtain ⟨b, hb'⟩ := hbv (P := P) (w := w) k (.ref x) 8 hx.1
  split
  · refine wpAny_bind (hb' A E _ ?_)
    cases b
    · exact go { t1 with plain := false } ⟨q3'.ris, q3'.dm, q3'.sz, q3'.mok, q3'.bd, q3'.reach⟩ q4 q5 q9
    · exact go t1 q3' q4 q5 q9
  · exact wpAny_bind (wpAny_pure (go t1 q3' q4 q5 q9))
structure GotN (ks : List (Addr × NestedKey)) (i : Nat) (L : List (Addr × NestedKey)) : Prop where
  sub : ∀ p ∈ L, p ∈ ks.take i
  all : ∀ p ∈ ks.take i, p.2 ∈ L.map (·.2)
  len : L.length ≤ i
theorem GotN.next {ks L L' : List (Addr × NestedKey)} {i : Nat} {x : Addr × NestedKey} (g : GotN ks i L) (h : ks[i]? = some x) (c1 : x.2 ∈ L.map (·.2) → L' = L) (c2 : x.2 ∉ L.map (·.2) → L'.Perm (x :: L)) : GotN ks (i + 1) L' := by
  have e : ks.take (i + 1) = ks.take i ++ [x] := by rw [List.take_succ, h]; rfl
  rcases Classical.em (x.2 ∈ L.map (·.2)) with c | c
  · rw [c1 c]
    refine ⟨fun p hp => by rw [e]; exact List.mem_append_left _ (g.sub p hp), fun p hp => ?_, Nat.le_succ_of_le g.len⟩
    rw [e] at hp
    rcases List.mem_append.mp hp with z | z
    · exact g.all p z
    · rw [List.mem_singleton.mp z]; exact c
  · have pm := c2 c
    refine ⟨fun p hp => ?_, fun p hp => ?_, by rw [pm.length_eq, List.length_cons]; exact Nat.succ_le_succ g.len⟩
    · rw [e]
      rcases List.mem_cons.mp (pm.mem_iff.mp hp) with z | z
      · rw [z]; exact List.mem_append_right _ (List.mem_singleton.mpr rfl)
      · exact List.mem_append_left _ (g.sub p z)
    · rw [(pm.map (·.2)).mem_iff, List.map_cons]
      rw [e] at hp
      rcases List.mem_append.mp hp with z | z
      · exact List.mem_cons_of_mem _ (g.all p z)
      · rw [List.mem_singleton.mp z]; exact List.mem_cons_self
theorem SetN.keep {h h' : Heap} (R : SetN w h a L es ep t) (ha : ∀ o, h.get? a = some o → h'.get? a = some o) (hk : ∀ p ∈ L, IsN h' p.2 p.1) : SetN w h' a L es ep t := by
  obtain ⟨o, ho, r⟩ := R.ob
  exact ⟨⟨o, ha o ho, r⟩, R.rows, R.tab, R.nd, hk, R.led, R.room, R.few⟩
theorem setN_new {h : Heap} {a : Addr} (ho : h.get? a = some (set0 w)) : SetN w h a [] #[] 0 (.fresh 0 0 (!w.params.followText "set-order")) where
  ob := ⟨_, ho, ⟨rfl, rfl, rfl⟩, rfl⟩
  rows := rfl
  tab := ⟨List.Pairwise.nil, rfl, rfl, .inl rfl, fun x hx => (by cases hx), fun i h j hi => (by simp at hi)⟩
  nd := List.nodup_nil
  key := fun p hp => (by cases hp)
  led := by
    show _ ∨ (!w.params.followText "set-order") = true
    cases w.params.followText "set-order" <;> simp
  room := by show 0 * 5 < 7 * 3; decide
  few := by show 0 ≤ 76; decide
theorem updN {I : Addr} {fp wr : List Addr} {G : Array GenState → Array GenState → Prop} {n : Nat} {Pv : Nat → Value → Prop} {St : Nat → Shared → Prop} {R : Result → Shared → Prop}
    (W : WalksS P w A.in1 I fp wr G n Pv St) (S : Addr) (hSf : S ∉ fp) (ks : List (Addr × NestedKey)) (hn : n = ks.length) (hfew : ∀ L : List (Addr × NestedKey), (L.map (·.2)).Nodup → (∀ p ∈ L, p ∈ ks) → L.length ≤ 76) (hval : ∀ i v, Pv i v → ∃ p, ks[i]? = some p ∧ v = .ref p.1)
    (h0 : Heap) (hk : ∀ p ∈ ks, IsN h0 p.2 p.1) (hS0 : h0.get? S = none) (hw0 : ∀ b ∈ wr, h0.get? b = none) (hu : A.in1.units + 8 < cLine) :
    ∀ (m i : Nat) (s : Shared), n - i = m → i ≤ n → St i s → (∀ b o, h0.get? b = some o → s.heap.get? b = some o) → (∃ L es ep t, SetN w s.heap S L es ep t ∧ GotN ks i L) →
      (∀ s' L es ep t, Moved (S :: wr) G s s' → SetN w s'.heap S L es ep t → GotN ks n L → R (.ok (.ret .none)) s') →
      codeAny (model P w) A (.builtin "set.update.loop" ⟨[.ref S, .ref I], []⟩) R s := by
  have hSw : S ∉ wr := fun h => hSf (W.sub _ h)
  have hsub : ∀ b ∈ wr, b ∈ S :: wr := fun b hb => List.mem_cons_of_mem _ hb
  have kM : ∀ {s s' : Shared}, Moved wr G s s' → (∀ b o, h0.get? b = some o → s.heap.get? b = some o) → ∀ b o, h0.get? b = some o → s'.heap.get? b = some o := fun hm hkp b o e =>
    hm.heap b o (fun hb => by rw [hw0 b hb] at e; cases e) (hkp b o e)
  have kK : ∀ {h : Heap}, (∀ b o, h0.get? b = some o → h.get? b = some o) → ∀ p ∈ ks, IsN h p.2 p.1 := fun hh p hp => (hk p hp).keep fun b o _ _ e _ => hh b o e
  intro m
  induction m with
  | zero =>
    intro i s hm0 hi hst hkp ⟨L, es, ep, t, hS, g⟩ hR
    obtain rfl : i = n := by omega
    refine codeAny_builtin F.entry_set_update_loop ?_
    rw [Around.under_plainId F.plain_set_update_loop _]
    show wpAny _ A.in1 (pyNext (.ref I) >>= _) _ _ s
    refine wpAny_bind (W.done s _ _ hst fun s' hm => ?_)
    show wpAny _ A.in1 (ret Value.none) _ _ s'
    exact wpAny_pure (hR s' L es ep t (hm.mono hsub) (hS.keep (fun o e => hm.heap S o hSw e) fun p hp => kK (kM hm hkp) p (List.mem_of_mem_take (g.sub p hp))) g)
  | succ m ih =>
    intro i s hm0 hi hst hkp ⟨L, es, ep, t, hS, g⟩ hR
    have hlt : i < n := by omega
    refine codeAny_builtin F.entry_set_update_loop ?_
    rw [Around.under_plainId F.plain_set_update_loop _]
    show wpAny _ A.in1 (pyNext (.ref I) >>= _) _ _ s
    refine wpAny_bind (W.item i s _ _ hlt hst fun v s' hP hst' hm => ?_)
    obtain ⟨p, hp, rfl⟩ := hval i v hP
    have hkp' := kM hm hkp
    have hS' : SetN w s'.heap S L es ep t := hS.keep (fun o e => hm.heap S o hSw e) fun q hq => kK hkp' q (List.mem_of_mem_take (g.sub q hq))
    have hx : IsN s'.heap p.2 p.1 := kK hkp' p (List.mem_of_getElem? hp)
    show wpAny _ A.in1 (holding [Value.ref p.1] (setAdd S (.ref p.1)) >>= _) _ _ s'
    refine wpAny_bind (wpAny_holding ?_)
    unfold setAdd
    refine wpAny_holding (wpAny_bind ((nestedKind P w).pyHash hu hx ?_))
    refine addN (s := { s' with toks := s'.toks + p.2.draws }) hS' hx hu (fun hnm => hfew (p :: L) (List.nodup_cons.mpr ⟨hnm, hS'.nd⟩) (fun q hq => (List.mem_cons.mp hq).elim (fun e => e ▸ List.mem_of_getElem? hp) fun z => List.mem_of_mem_take (g.sub q z))) fun b h' L' es' ep' t' hsb hS2 c1 c2 => ?_
    have hkp2 : ∀ b o, h0.get? b = some o → h'.get? b = some o := fun b o e => (hsb.2 b (fun z => by rw [z, hS0] at e; cases e)).trans (hkp' b o e)
    refine wpAny_pure ⟨plainId_quiet F.plain_set_update_loop _, ih (i + 1) _ (by omega) hlt (W.frame _ s' _ _ hst' (Nat.le_add_right _ _) fun b hb o e => ?_) hkp2 ⟨L', es', ep', t', hS2, g.next hp c1 c2⟩ fun s'' L2 es2 ep2 t2 hm'' hS'' g'' => ?_⟩
    · rw [hsb.2 b (fun h : b = S => hSf (by rw [← h]; exact hb))]; exact e
    · refine hR s'' L2 es2 ep2 t2 (Moved.trans W.gtrans ((hm.mono hsub).then_heap (Nat.le_add_right _ _) fun b o hb e => ?_) hm'') hS'' g''
      rw [hsb.2 b (fun h : b = S => hb (by rw [h]; exact List.mem_cons_self))]; exact e
theorem setN_made {l : Addr} {items : Array Value} (ks : List (Addr × NestedKey)) {Q : Value → Shared → Prop} (hh : A.handled = none) (hl : s.heap.IsList l items) (hit : items.toList = ks.map fun p => Value.ref p.1)
    (hk : ∀ p ∈ ks, IsN s.heap p.2 p.1) (hfew : ∀ L : List (Addr × NestedKey), (L.map (·.2)).Nodup → (∀ p ∈ L, p ∈ ks) → L.length ≤ 76) (hu : A.units + 11 < cLine)
    (h : ∀ (h' : Heap) (tk : Nat) L es ep t, SetN w h' s.heap.objs.size L es ep t → GotN ks ks.length L → (∀ b o, s.heap.get? b = some o → h'.get? b = some o) → Q (.ref s.heap.objs.size) { s with heap := h', toks := tk }) :
    wpAny (model P w) A (call (.type "set") [.ref l]) Q E s := by
  have hisz : items.size = ks.length := by rw [← Array.length_toList, hit, List.length_map]
  have hlS : l < s.heap.objs.size := by obtain ⟨ol, hol, _⟩ := hl; exact Heap.lt_size hol
  have hz1 : (s.heap.push (set0 w)).objs.size = s.heap.objs.size + 1 := Heap.size_push ..
  have none_of : ∀ b, s.heap.objs.size ≤ b → s.heap.get? b = none := fun b hb => by
    cases q : s.heap.get? b with
    | none => rfl
    | some o => exact absurd (Nat.lt_of_lt_of_le (Heap.lt_size q) hb) (Nat.lt_irrefl _)
  refine set_made (T := fun h' => ∃ L es ep t, SetN w h' s.heap.objs.size L es ep t ∧ GotN ks ks.length L) hh hl (fun R hl2 hR => ?_) fun h' tk ⟨L, es, ep, t, hS, g⟩ hk => h h' tk L es ep t hS g hk
  have hh3 : A.in1.in1.in1.handled = none := by simp [hh]
  refine updN ((Walks.list hh3 (s.heap.objs.size + 1) l (Nat.ne_of_lt (Nat.lt_succ_of_lt hlS)) items).toS) s.heap.objs.size ?_ ks hisz hfew (fun i v hv => ?_) s.heap hk (none_of _ (Nat.le_refl _)) (fun b hb => none_of b (by rw [List.mem_singleton.mp hb]; exact Nat.le_succ _)) ?_ (items.size - 0) 0 _ (by omega) (Nat.zero_le _) ⟨⟨lit0 l, ?_, rfl, rfl⟩, hl2⟩ (fun b o e => Heap.get?_push_of_some _ (Heap.get?_push_of_some _ e)) ⟨[], #[], 0, _, setN_new ?_, ⟨fun p h => (by cases h), fun p h => (by simp at h), Nat.le_refl _⟩⟩ fun s' L es ep t hm hS g => hR s' hm ⟨L, es, ep, t, hS, hisz ▸ g⟩
  · simp only [List.mem_cons, List.not_mem_nil, or_false, not_or]; exact ⟨Nat.ne_of_lt (Nat.lt_succ_self _), Nat.ne_of_gt hlS⟩
  · have q : items.toList[i]? = some v := by rw [Array.getElem?_toList]; exact hv
    rw [hit, List.getElem?_map] at q
    cases hq : ks[i]? with
    | none => rw [hq] at q; cases q
    | some p => rw [hq] at q; exact ⟨p, rfl, (Option.some.inj q).symm⟩
  · simp only [Around.in1_units]; omega
  · rw [← hz1]; exact Heap.get?_push_size _ rfl
  · exact Heap.get?_push_of_some _ (Heap.get?_push_size _ rfl)
end
end DL
end
section
set_option maxHeartbeats 0
namespace DL
open PySem PySem.Spec PyProof.Rows L2
mutual
def nkOk : D → Nat → Bool
  | .int _, _ => true
  | .str s, _ => okS s
  | .tup xs, n + 1 => nkOks xs n
  | _, _ => false
def nkOks : List D → Nat → Bool
  | [], _ => true
  | x :: xs, n => nkOk x n && nkOks xs n
end
mutual
def toNK : D → NestedKey
  | .int i => .num i
  | .str s => .text s
  | .tup xs => .tup (toNKs xs)
  | _ => .none
def toNKs : List D → List NestedKey
  | [] => []
  | x :: xs => toNK x :: toNKs xs
end
mutual
theorem nk_dok : ∀ (d : D) (n : Nat), nkOk d n = true → dOk d n = true
  | .int _, _, _ => rfl
  | .str s, _, h => by simpa [nkOk, dOk] using h
  | .tup xs, 0, h => by simp [nkOk] at h
  | .tup xs, n + 1, h => by rw [dOk]; exact nks_doks xs n (by simpa [nkOk] using h)
  | .non, _, h => by simp [nkOk] at h
  | .bl _, _, h => by simp [nkOk] at h
  | .lst _, _, h => by simp [nkOk] at h
  | .ref _, _, h => by simp [nkOk] at h
  | .scr _, _, h => by simp [nkOk] at h
  | .ty _, _, h => by simp [nkOk] at h
theorem nks_doks : ∀ (xs : List D) (n : Nat), nkOks xs n = true → dOks xs n = true
  | [], _, _ => rfl
  | x :: xs, n, h => by
    have h' : nkOk x n = true ∧ nkOks xs n = true := by simpa [nkOks] using h
    rw [dOks, nk_dok x n h'.1, nks_doks xs n h'.2]; rfl
end
mutual
theorem nk_depth : ∀ (d : D) (n : Nat), nkOk d n = true → (toNK d).depth ≤ n
  | .int _, _, _ => by simp [toNK, NestedKey.depth]
  | .str s, _, h => by simp [toNK, NestedKey.depth]
  | .tup xs, 0, h => by simp [nkOk] at h
  | .tup xs, n + 1, h => by
    have := nks_depth xs n (by simpa [nkOk] using h)
    simp only [toNK, NestedKey.depth]; omega
  | .non, _, h => by simp [nkOk] at h
  | .bl _, _, h => by simp [nkOk] at h
  | .lst _, _, h => by simp [nkOk] at h
  | .ref _, _, h => by simp [nkOk] at h
  | .scr _, _, h => by simp [nkOk] at h
  | .ty _, _, h => by simp [nkOk] at h
theorem nks_depth : ∀ (xs : List D) (n : Nat), nkOks xs n = true → NestedKey.depthAll (toNKs xs) ≤ n
  | [], _, _ => by simp [toNKs, NestedKey.depthAll]
  | x :: xs, n, h => by
    have h' : nkOk x n = true ∧ nkOks xs n = true := by simpa [nkOks] using h
    have h1 := nk_depth x n h'.1
    have h2 := nks_depth xs n h'.2
    simp only [toNKs, NestedKey.depthAll]; omega
end
mutual
theorem nk_inj : ∀ (d e : D) (n k : Nat), nkOk d n = true → nkOk e k = true → toNK d = toNK e → d = e
  | .int i, e, n, k, _, he, h => by cases e <;> simp [toNK, nkOk] at h he ⊢ <;> exact h
  | .str s, e, n, k, _, he, h => by cases e <;> simp [toNK, nkOk] at h he ⊢ <;> exact h
  | .tup xs, e, 0, k, hd, he, h => by simp [nkOk] at hd
  | .tup xs, e, n + 1, k, hd, he, h => by
    cases e with
    | tup ys =>
      cases k with
      | zero => simp [nkOk] at he
      | succ k =>
        simp only [toNK, NestedKey.tup.injEq] at h
        rw [nks_inj xs ys n k (by simpa [nkOk] using hd) (by simpa [nkOk] using he) h]
    | _ => simp [toNK, nkOk] at h he
  | .non, _, _, _, h, _, _ => by simp [nkOk] at h
  | .bl _, _, _, _, h, _, _ => by simp [nkOk] at h
  | .lst _, _, _, _, h, _, _ => by simp [nkOk] at h
  | .ref _, _, _, _, h, _, _ => by simp [nkOk] at h
  | .scr _, _, _, _, h, _, _ => by simp [nkOk] at h
  | .ty _, _, _, _, h, _, _ => by simp [nkOk] at h
theorem nks_inj : ∀ (xs ys : List D) (n k : Nat), nkOks xs n = true → nkOks ys k = true → toNKs xs = toNKs ys → xs = ys
  | [], [], _, _, _, _, _ => rfl
  | [], _ :: _, _, _, _, _, h => by simp [toNKs] at h
  | _ :: _, [], _, _, _, _, h => by simp [toNKs] at h
  | x :: xs, y :: ys, n, k, hx, hy, h => by
    have h1 : nkOk x n = true ∧ nkOks xs n = true := by simpa [nkOks] using hx
    have h2 : nkOk y k = true ∧ nkOks ys k = true := by simpa [nkOks] using hy
    simp only [toNKs, List.cons.injEq] at h
    rw [nk_inj x y n k h1.1 h2.1 h.1, nks_inj xs ys n k h1.2 h2.2 h.2]
end
mutual
theorem reads_nk {h : Heap} : ∀ (d : D) (n : Nat) (v : Value) (as : List Addr), nkOk d n = true → Reads h v (toPy d) as → NestedIs h (toNK d) v ∧ as = []
  | .int i, n, v, as, _, r => by
    have r' : Reads h v (.int i) as := r
    cases r'; exact ⟨.int _ _, rfl⟩
  | .str s, n, v, as, _, r => by
    have r' : Reads h v (.str s) as := r
    cases r'; exact ⟨.text _ _, rfl⟩
  | .tup xs, 0, v, as, hd, r => by simp [nkOk] at hd
  | .tup xs, n + 1, v, as, hd, r => by
    have r' : Reads h v (.tuple (toPys xs)) as := r
    cases r' with
    | tuple h1 h2 h3 h4 =>
      obtain ⟨a1, a2⟩ := reads_nks xs n _ _ (by simpa [nkOk] using hd) h4
      exact ⟨.tup h1 h2 h3 a1, a2⟩
  | .non, n, v, as, hd, r => by simp [nkOk] at hd
  | .bl _, n, v, as, hd, r => by simp [nkOk] at hd
  | .lst _, n, v, as, hd, r => by simp [nkOk] at hd
  | .ref _, n, v, as, hd, r => by simp [nkOk] at hd
  | .scr _, n, v, as, hd, r => by simp [nkOk] at hd
  | .ty _, n, v, as, hd, r => by simp [nkOk] at hd
theorem reads_nks {h : Heap} : ∀ (xs : List D) (n : Nat) (vs : List Value) (as : List Addr), nkOks xs n = true → ReadsAll h vs (toPys xs) as → NestedAll h (toNKs xs) vs ∧ as = []
  | [], n, vs, as, _, r => by
    have r' : ReadsAll h vs [] as := r
    cases r'; exact ⟨.nil, rfl⟩
  | x :: xs, n, vs, as, hd, r => by
    have h1 : nkOk x n = true ∧ nkOks xs n = true := by simpa [nkOks] using hd
    have r' : ReadsAll h vs (toPy x :: toPys xs) as := r
    cases r' with
    | cons p q =>
      obtain ⟨a1, a2⟩ := reads_nk x n _ _ h1.1 p
      obtain ⟨b1, b2⟩ := reads_nks xs n _ _ h1.2 q
      subst a2 b2
      exact ⟨.cons a1 b1, rfl⟩
end
def adr : V → Addr
  | .ref a => a
  | _ => 0
def keyZ (z : V × D) : Addr × NestedKey := (adr z.1, toNK z.2)
theorem pick_map {α β : Type} {f : α → β} {xs : List α} : ∀ {L : List β}, (∀ p ∈ L, p ∈ xs.map f) → ∃ ys : List α, L = ys.map f ∧ ∀ y ∈ ys, y ∈ xs
  | [], _ => ⟨[], rfl, fun _ h => by cases h⟩
  | p :: L, h => by
    obtain ⟨x, hx, e⟩ := List.mem_map.mp (h p List.mem_cons_self)
    obtain ⟨ys, e2, h2⟩ := pick_map (L := L) fun q hq => h q (List.mem_cons_of_mem _ hq)
    refine ⟨x :: ys, by rw [List.map_cons, e, e2], fun y hy => ?_⟩
    rcases List.mem_cons.mp hy with z | z
    · rw [z]; exact hx
    · exact h2 y z
section
variable {P : Program} {w : World} {A : Around} {E : Value → Shared → Prop} {s : Shared}
theorem each_refs : ∀ (zs : List (V × D)), PySem.W.EachIs (fun (u : Value) (b : V × D) => u = Value.ref (adr b.1)) (zs.map fun z => Value.ref (adr z.1)) zs
  | [] => .nil
  | z :: zs => .cons rfl (each_refs zs)
theorem refs_each : ∀ {us : List Value} {zs : List (V × D)}, PySem.W.EachIs (fun (u : Value) (b : V × D) => u = Value.ref (adr b.1)) us zs → us = zs.map fun z => Value.ref (adr z.1)
  | _, _, .nil => rfl
  | _, _, .cons h t => by rw [List.map_cons, ← refs_each t, ← h]
theorem setN_sorted {a : Addr} {L : List (Addr × NestedKey)} {es : Array (Int × Value)} {ep : Nat} {t : SetTable} {Q : Value → Shared → Prop} (R : SetN w s.heap a L es ep t) (hh : A.handled = none) {zL : List (V × D)} (hL : L = zL.map keyZ)
    (hrd : ∀ z ∈ zL, Reads s.heap (.ref (adr z.1)) (toPy z.2) []) (hal : ∀ x ∈ zL, ∀ y ∈ zL, alikeD x.2 y.2 = true) (hso : ∀ z ∈ zL, ∃ x r, z.2 = .tup (x :: r)) (hdp : ∀ z ∈ zL, (toPy z.2).depth ≤ 8) (hu : A.units + 20 < cLine)
    (hQ : ∀ (s' : Shared) (p : Addr) (c : Nat) (zs : List (V × D)), (∀ b o, s.heap.get? b = some o → s'.heap.get? b = some o) → s'.gens = s.gens → s'.os = s.os → s.heap.objs.size ≤ p → s'.heap.get? p = some (seqObj "list" (zs.map fun z => Value.ref (adr z.1)).toArray c) → zs.Perm zL → zs.Pairwise (fun x y => ltD y.2 x.2 = false) → Q (.ref p) s') :
    wpAny (model P w) A (call (.builtin "sorted") [.ref a]) Q E s := by
  obtain ⟨o, ho, hex, hd⟩ := R.ob
  have hsz := rows_size R.rows
  have hfew := R.few
  refine Calls.call_function_entry kind_sorted plain_sorted entry_sorted (args_sorted1 _) ?_
  unfold Builtin.«sorted»
  refine wpAny_bind (m := checkCount "sorted" 1 1 _) (wpAny_pure (wpAny_bind (collect_set (A := A.in1) hh ⟨o, ho, hex.1, hd⟩ R.fits (by unfold scanBound; omega) R.tab.ris R.led fun s1 vs k1 hz g1 o1 pm => ?_)))
  have hes : es.toList.map (·.2) = zL.map fun z => Value.ref (adr z.1) := by
    rw [R.rows, hL, List.map_map, List.map_map]; rfl
  rw [hes] at pm
  obtain ⟨z1, rfl, pz⟩ := perm_map pm
  have hl1 : z1.length ≤ 76 := by rw [pz.length_eq, ← List.length_map (as := zL) (f := keyZ), ← hL]; exact hfew
  have hvl : (z1.map fun z => Value.ref (adr z.1)).length ≤ sizeLine := by rw [List.length_map, sizeLine_eq]; omega
  refine wpAny_bind (wpAny_newList ?_ hvl)
  have hoL : (s1.heap.push (seqObj "list" (z1.map fun z => Value.ref (adr z.1)).toArray 0)).get? s1.heap.objs.size = some (seqObj "list" (z1.map fun z => Value.ref (adr z.1)).toArray 0) := Heap.get?_push_size _ rfl
  have er : ∀ zs : List (V × D), (∀ z ∈ zs, z ∈ zL) → PySem.W.EachIs (fun (u : Value) (b : V × D) => ∃ as, Reads (s1.heap.push (seqObj "list" (z1.map fun z => Value.ref (adr z.1)).toArray 0)) u (toPy b.2) as ∧ s1.heap.objs.size ∉ as) (zs.map fun z => Value.ref (adr z.1)) zs := by
    intro zs
    induction zs with
    | nil => exact fun _ => .nil
    | cons z zs ih => exact fun h => .cons ⟨[], PyProof.Rows.Reads.keeps (fun b u e => Heap.get?_push_of_some _ (k1 b u e)) (hrd z (h z List.mem_cons_self)), by simp⟩ (ih fun y hy => h y (List.mem_cons_of_mem _ hy))
  refine wpAny_bind (wpAny_holding (PySem.W.list_sort_data (s := { s1 with heap := s1.heap.push (seqObj "list" (z1.map fun z => Value.ref (adr z.1)).toArray 0) }) (enc := fun b : V × D => toPy b.2) hoL (each_refs z1) (er z1 fun z hz => pz.mem_iff.mp hz) ?_ ?_ (by rw [sizeLine_eq]; omega) (fun z hz => ?_) fun out hol he => ?_))
  · intro d hd d' hd'
    obtain ⟨x, h1, rfl⟩ := List.mem_map.mp hd
    obtain ⟨y, h2, rfl⟩ := List.mem_map.mp hd'
    exact hal _ (pz.mem_iff.mp h1) _ (pz.mem_iff.mp h2)
  · left
    intro d hd
    obtain ⟨z, h1, rfl⟩ := List.mem_map.mp hd
    obtain ⟨x, r, e⟩ := hso z (pz.mem_iff.mp h1)
    exact ⟨toPy x, toPys r, by rw [e]; rfl⟩
  · have := hdp z (pz.mem_iff.mp hz)
    simp only [Around.in1_units]; omega
  · have hp : (z1.mergeSort (PySem.W.dataLe false fun b : V × D => toPy b.2)).Perm z1 := List.mergeSort_perm _ _
    have hsort : (z1.mergeSort (PySem.W.dataLe false fun b : V × D => toPy b.2)).Pairwise (fun x y => ltD y.2 x.2 = false) := by
      have T := PySem.W.sortLe_total (listOrd itemOrd) false (fun b : V × D => PySem.W.keyToks (toPy b.2))
      have h := List.pairwise_mergeSort (le := PySem.W.dataLe false fun b : V × D => toPy b.2) T.trans (fun a b => by rw [Bool.or_eq_true]; exact T.total a b) z1
      exact h.imp fun {x y} h => by
        simp only [PySem.W.dataLe_eq, cond_false, Bool.not_eq_true'] at h
        exact h
    generalize z1.mergeSort (PySem.W.dataLe false fun b : V × D => toPy b.2) = zs at hp hsort he
    rw [refs_each he]
    obtain ⟨c, hc⟩ := sortedHeap_at (vs := z1.map fun z => Value.ref (adr z.1)) (out := (zs.map fun z => Value.ref (adr z.1)).toArray) hoL
    refine wpAny_pure ⟨_, rfl, hQ _ s1.heap.objs.size c zs (fun b u e => ?_) g1 o1 hz hc (hp.trans pz) hsort⟩
    have hlt := Heap.lt_size (k1 b u e)
    show (sortedHeap (s1.heap.push (seqObj "list" (z1.map fun z => Value.ref (adr z.1)).toArray 0)) s1.heap.objs.size (z1.map fun z => Value.ref (adr z.1)) (zs.map fun z => Value.ref (adr z.1)).toArray).get? b = some u
    rw [sortedHeap_old (Nat.ne_of_lt hlt) (by rw [size_push']; exact Nat.lt_succ_of_lt hlt)]
    exact Heap.get?_push_of_some _ (k1 b u e)
end
section
variable {X : Cx}
theorem nodup_le {α : Type} [DecidableEq α] : ∀ {es ds : List α}, es.Nodup → (∀ d ∈ es, d ∈ ds) → es.length ≤ ds.length
  | [], _, _, _ => Nat.zero_le _
  | e :: es, ds, nd, h => by
    obtain ⟨h1, h2⟩ := List.nodup_cons.mp nd
    have hm := h e List.mem_cons_self
    have ih := nodup_le (ds := ds.erase e) h2 fun d hd => (List.mem_erase_of_ne (fun z : d = e => h1 (by rw [← z]; exact hd))).mpr (h d (List.mem_cons_of_mem _ hd))
    rw [List.length_erase_of_mem hm] at ih
    have : 0 < ds.length := List.length_pos_of_mem hm
    simp only [List.length_cons]; omega
structure SetItems (ds : List D) : Prop where
  nk : ∀ d ∈ ds, nkOk d 8 = true
  al : ∀ x ∈ ds, ∀ y ∈ ds, alikeD x y = true
  so : ∀ d ∈ ds, ∃ x r, d = .tup (x :: r)
  few : ∀ es : List D, es.Nodup → (∀ d ∈ es, d ∈ ds) → es.length ≤ 76
def tSrtSetN (K : PySem.W.Frag) (ta : TE) : TE := fun σ H Q => ta σ H fun x H1 => ∃ (l : Addr) (xs : List V) (ds : List D), x = .ref l ∧ SqL K H1 l xs ∧ L2.DpAll K H1 xs (toPys ds) ∧ xs.length = ds.length ∧ SetItems ds ∧
  ∀ (zs : List (V × D)) (p : Addr), (∀ z ∈ zs, z ∈ xs.zip ds) → (zs.map (·.2)).Nodup → (∀ d ∈ ds, d ∈ zs.map (·.2)) → zs.Pairwise (fun x y => ltD y.2 x.2 = false) → H1 p = none → Q (.ref p) (upd H1 p (.lst (zs.map (·.1))))
theorem pe_srtSetN {a : Expr} {ta : TE} {p p2 q pos : Pos} (hc : X.calm = true) (hu : X.A.units + 64 < cLine) (hg : Gl X "sorted") (hm : X.mg "sorted" = none) (hg2 : Gl X "set") (hm2 : X.mg "set" = none) (ha : PE X a ta)
    (na : starEach [a] X.env = (false, eval a X.env) :: starEach [] X.env := by rfl) : PE X (.Call (.Name "sorted" p) [.Call (.Name "set" p2) [a] [] q] [] pos) (tSrtSetN X.K ta) := by
  refine ⟨fun pins s σ H Q I h => ?_⟩
  refine Call_ (ld_blt I hg hm PyProof.Rows.boot_sorted (PyProof.Rows.callWith_builtin1 (PyProof.Rows.args_cons ?_ rfl) rfl rfl))
  refine Call_ (ld_blt I hg2 hm2 PyProof.Rows.boot_set (PyProof.Rows.callWith_type1 (PyProof.Rows.args_cons (thn (ha.run pins s σ H _ I h) fun v s1 ⟨x, H1, I1, r1, q1⟩ => PyProof.Rows.args_nil ?_) na) na rfl))
  obtain ⟨l, xs, ds, rfl, hq, hD, hlen, hI, q1⟩ := q1
  cases r1
  obtain ⟨its, rv, pl, hz⟩ := I1.list hq
  -- each item: its address, what it reads as
  have facts : ∀ {xs : List V} {us : List Value} {ds : List D}, Vals xs us → L2.DpAll X.K H1 xs (toPys ds) → xs.length = ds.length → (∀ d ∈ ds, nkOk d 8 = true) → (∀ d ∈ ds, ∃ x r, d = .tup (x :: r)) →
      us = (xs.zip ds).map (fun z => Value.ref (adr z.1)) ∧ (xs = (xs.zip ds).map (·.1)) ∧ (∀ z ∈ xs.zip ds, z.1 = .ref (adr z.1) ∧ Reads s1.heap (.ref (adr z.1)) (toPy z.2) []) := by
    intro xs us ds h1
    induction h1 generalizing ds with
    | nil => exact fun _ _ _ _ => ⟨by simp, by simp, fun z hz => by simp at hz⟩
    | @cons x u xs us r t ih =>
      intro h2 h3 h4 h5
      cases ds with
      | nil => simp at h3
      | cons d ds =>
        cases h2 with
        | cons p q =>
          obtain ⟨a1, a2, a3⟩ := ih q (by simpa using h3) (fun e he => h4 e (List.mem_cons_of_mem _ he)) (fun e he => h5 e (List.mem_cons_of_mem _ he))
          obtain ⟨y, rr, e⟩ := h5 d List.mem_cons_self
          obtain ⟨as, rd⟩ := Dp.reads I1 (toPy d) x u p r
          obtain ⟨_, eas⟩ := reads_nk d 8 u as (h4 d List.mem_cons_self) rd
          subst eas
          obtain ⟨b, eb⟩ : ∃ b, u = .ref b := by
            rw [e] at rd
            have rd' : Reads s1.heap u (.tuple (toPys (y :: rr))) [] := rd
            cases rd' with | tuple _ _ _ _ => exact ⟨_, rfl⟩
          subst eb
          have ex : x = .ref b := by
            rw [e] at p
            have p' : L2.Dp X.K H1 x (.tuple (toPys (y :: rr))) := p
            cases p' with | tup _ _ => cases r; rfl
          subst ex
          refine ⟨by rw [a1]; rfl, by rw [List.zip_cons_cons, List.map_cons, ← a2], fun z hz => ?_⟩
          rcases List.mem_cons.mp hz with ez | ez
          · rw [ez]; exact ⟨rfl, rd⟩
          · exact a3 z ez
  obtain ⟨f1, f2, f3⟩ := facts rv hD hlen hI.nk hI.so
  have hzd : ∀ z ∈ xs.zip ds, z.2 ∈ ds := fun z hz => (List.of_mem_zip hz).2
  have hks : ∀ p ∈ (xs.zip ds).map keyZ, IsN s1.heap p.2 p.1 := fun p hp => by
    obtain ⟨z, hz, rfl⟩ := List.mem_map.mp hp
    exact ⟨(reads_nk z.2 8 _ _ (hI.nk _ (hzd z hz)) (f3 z hz).2).1, nk_depth z.2 8 (hI.nk _ (hzd z hz))⟩
  have hzl : (xs.zip ds).length = ds.length := by rw [List.length_zip, hlen]; simp
  refine setN_made ((xs.zip ds).map keyZ) (I1.ok.hd hc) pl.isList (by rw [f1, List.map_map]; rfl) hks (fun L nd hL => by
    obtain ⟨zL, eL, hin⟩ := pick_map (f := keyZ) (xs := xs.zip ds) (L := L) hL
    have nd1 : (zL.map fun z => toNK z.2).Nodup := by rw [eL, List.map_map] at nd; exact nd
    have nd2 : (zL.map (·.2)).Nodup := List.pairwise_map.mpr ((List.pairwise_map.mp nd1).imp_of_mem fun {x y} hx hy h e => h (by rw [e]))
    rw [eL, List.length_map, ← List.length_map (as := zL) (f := (·.2))]
    exact hI.few _ nd2 fun d hd => by obtain ⟨z, hz, rfl⟩ := List.mem_map.mp hd; exact hzd z (hin z hz)) (by omega) fun h' tk L es ep t hS g hk => ?_
  refine PyProof.Rows.args_nil ?_
  obtain ⟨zL, eL, hin⟩ := pick_map (f := keyZ) (xs := xs.zip ds) (L := L) fun p hp => List.mem_of_mem_take (g.sub p hp)
  refine setN_sorted (s := { s1 with heap := h', toks := tk }) hS (I1.ok.hd hc) eL (fun z hz => PyProof.Rows.Reads.keeps hk (f3 z (hin z hz)).2) (fun x hx y hy => hI.al _ (hzd x (hin x hx)) _ (hzd y (hin y hy))) (fun z hz => hI.so _ (hzd z (hin z hz))) (fun z hz => (toPy_lay z.2 8 (nk_dok _ _ (hI.nk _ (hzd z (hin z hz))))).2) (by omega) fun s' p c zs k g1 o hp hg pm hs => ?_
  have hzin : ∀ z ∈ zs, z ∈ xs.zip ds := fun z hz => hin z (pm.mem_iff.mp hz)
  have k2 : ∀ b u, s1.heap.get? b = some u → s'.heap.get? b = some u := fun b u e => k b u (hk b u e)
  have hp1 : s1.heap.objs.size ≤ p := by
    obtain ⟨o, ho, _⟩ := hS.ob
    exact Nat.le_trans (Nat.le_of_lt (Heap.lt_size ho)) hp
  have hn : H1 p = none := I1.hok.fresh hp1
  have hfew : (zs.map (·.1)).length ≤ sizeLine := by
    rw [List.length_map, pm.length_eq, ← List.length_map (as := zL) (f := keyZ), ← eL, sizeLine_eq]
    have := hS.few; omega
  have hv : Vals (zs.map (·.1)) (zs.map fun z => Value.ref (adr z.1)) := by
    clear hs pm hg hfew
    induction zs with
    | nil => exact .nil
    | cons z zs ih =>
      refine .cons ?_ (ih fun y hy => hzin y (List.mem_cons_of_mem _ hy))
      have e := (f3 z (hzin z List.mem_cons_self)).1
      show L2.RelV z.1 (Value.ref (adr z.1))
      generalize adr z.1 = b at e ⊢
      rw [e]; rfl
  have J : Inv X pins σ (upd H1 p (.lst (zs.map (·.1)))) { s1 with heap := s'.heap, gens := s'.gens, drawn := s'.drawn, toks := s'.toks } :=
    I1.call (ch := []) (Un.laid k2 hp1 hn) (I1.hok.laid k2 hp1 ⟨hfew, _, c, hv, hg⟩) (by rw [g1]; exact I1.bare) (fun _ z => nomatch z)
  have e : s' = { s1 with heap := s'.heap, gens := s'.gens, drawn := s'.drawn, toks := s'.toks } := by
    cases s'; cases s1; cases o; rfl
  rw [e]
  have hkn : ∀ x ∈ zL, ∀ y ∈ zL, toNK x.2 = toNK y.2 → x.2 = y.2 := fun x hx y hy e => nk_inj _ _ 8 8 (hI.nk _ (hzd x (hin x hx))) (hI.nk _ (hzd y (hin y hy))) e
  refine ⟨.ref p, _, J, rfl, q1 zs p hzin ?_ (fun d hd => ?_) hs hn⟩
  · have nd : (zL.map fun z => toNK z.2).Nodup := by
      have := hS.nd
      rw [eL, List.map_map] at this
      exact this
    have nd2 : (zL.map (·.2)).Nodup := by
      refine List.pairwise_map.mpr ((List.pairwise_map.mp nd).imp_of_mem fun {x y} hx hy h e => h (by rw [e]))
    exact (pm.map (·.2)).nodup_iff.mpr nd2
  · obtain ⟨i, hi, e⟩ := List.getElem_of_mem hd
    have hi2 : i < xs.length := by omega
    have hz : (xs[i], ds[i]) ∈ xs.zip ds := by
      refine List.mem_iff_getElem.mpr ⟨i, by rw [hzl]; exact hi, ?_⟩
      rw [List.getElem_zip]
    have := g.all (keyZ (xs[i], ds[i])) (by rw [List.take_length]; exact List.mem_map.mpr ⟨_, hz, rfl⟩)
    rw [eL, List.map_map] at this
    obtain ⟨z, hz1, e2⟩ := List.mem_map.mp this
    have e3 : toNK z.2 = toNK (ds[i]) := e2
    have e4 : z.2 = d := by
      rw [← e]
      exact nk_inj _ _ 8 8 (hI.nk _ (hzd z (hin z hz1))) (hI.nk _ (List.getElem_mem hi)) e3
    exact List.mem_map.mpr ⟨z, pm.mem_iff.mpr hz1, e4⟩
def wSrtSetD (b : Bool) (a : WE) : WE := fun r m R x => a r m (fun u m1 => ∃ ds : List D, asL m1 u = some ds ∧ SetItems ds ∧ ∀ es : List D, es.Nodup → (∀ d, d ∈ es ↔ d ∈ ds) → es.Pairwise (fun x y => ltD y x = false) → wNw b es m1 R) x
theorem pd_srtSetD {W : WX} {b : Bool} {a : Expr} {fa : WE} {p p2 q pos : Pos} (hc : X.calm = true) (hu : X.A.units + 64 < cLine) (hg : Gl X "sorted") (hm : X.mg "sorted" = none) (hg2 : Gl X "set") (hm2 : X.mg "set" = none) (ha : PE X a (up X.K W fa))
    (na : starEach [a] X.env = (false, eval a X.env) :: starEach [] X.env := by rfl) : PE X (.Call (.Name "sorted" p) [.Call (.Name "set" p2) [a] [] q] [] pos) (up X.K W (wSrtSetD b fa)) := PE.imp (pe_srtSetN hc hu hg hm hg2 hm2 ha na) fun σ H Q h => by
  obtain ⟨B, ρ, m, R, x, er, S, h, t, tx⟩ := h
  refine ⟨B, ρ, m, _, x, er, S, h, fun B1 d m1 u H1 s1 S1 f1 p1 q1 => ?_, tx⟩
  obtain ⟨ds, h1, hI, h2⟩ := q1
  obtain ⟨l, vs, rfl, hl, pa⟩ := seqL S1 p1 h1
  have hlen := pa.length
  have hok : dOks ds 8 = true := by
    have : ∀ {l : List D}, (∀ d ∈ l, dOk d 8 = true) → dOks l 8 = true := fun {l} h => by
      induction l with
      | nil => rfl
      | cons a l ih => rw [dOks, h a List.mem_cons_self, ih fun d hd => h d (List.mem_cons_of_mem _ hd)]; rfl
    exact this fun d hd => nk_dok d 8 (hI.nk d hd)
  refine ⟨l, vs, ds, rfl, .inl (.inl hl), toPys_dp S1.same pa hok, hlen, hI, fun zs q z1 z2 z3 z4 nq => ?_⟩
  have hz : DpAll X.K B1 (zs.map (·.1)) (zs.map (·.2)) := zip_dp fun z hz => dp_zip pa z (z1 z hz)
  refine eff_nw S1 (t.step s1 f1) hz (h2 (zs.map (·.2)) z2 (fun d => ⟨fun hd => ?_, z3 d⟩) (List.pairwise_map.mpr z4)) q nq
  obtain ⟨z, hz, rfl⟩ := List.mem_map.mp hd
  exact (List.of_mem_zip (z1 z hz)).2
end
end DL
end
section
set_option maxHeartbeats 0
namespace DL
open PySem PySem.Spec PyProof.Rows L2
def wCountD : WM := fun d us m R => match us with
  | [y] => ∃ xs, asL m d = some xs ∧ dOk y 59 = true ∧ dOks xs 59 = true ∧ R (.int ((xs.countP fun z => eqD z y : Nat) : Int)) m
  | _ => False
section
variable {X : Cx} {K : PySem.W.Frag} {B H : Hp} {m : Store}
def rCountD (K : PySem.W.Frag) : V → List V → Hp → VK → Prop := fun x xs H Q => ∃ (a : Addr) (y : V) (d : PyData) (vs : List V) (ds : List PyData), x = V.ref a ∧ xs = [y] ∧ SqL K H a vs ∧ L2.DpAll K H vs ds ∧ L2.Dp K H y d ∧
  SeqAt.shaped (.list ds) = true ∧ SeqAt.shaped d = true ∧ Q (.int ((ds.countP fun z => PyData.eqv z d : Nat) : Int)) H
theorem mt_countD (hu : X.A.units + 65 < cLine) : MtR X "list.count" (rCountD X.K) := by
  intro pins s σ H x xs v us Q I rx rxs h
  obtain ⟨a, y, d, vs, ds, rfl, rfl, hs, ha, hy, sl, sd, q⟩ := h
  cases rx
  obtain ⟨uy, rfl, ry⟩ := rxs.one
  obtain ⟨bs, r1⟩ := Dp.reads I d y uy hy ry
  have hxs : PyData.canLayAll0 ds = true := SeqAt.canLay_of_shaped sl
  have hroom : X.A.units + 1 + min (PyData.depthAll ds) d.depth < cLine := room_in_shaped sd hu
  obtain ⟨its, rv, ⟨⟨cls, dd, data, sl'⟩, n, ho, hc, hdn, hd⟩, hlen⟩ := I.list hs
  simp only at hc hd
  subst hc hd
  obtain ⟨as, h4⟩ := Dp.readsAll I ds _ its ha rv
  have hmap : its.map (SeqAt.readOf s.heap) = ds := SeqAt.readsAll_map ds its as hxs h4
  refine call_meets PySem.F.slot_list_count ⟨_, ho, rfl⟩ PySem.F.entry_list_count (PySem.F.args_list_count_2 _ _)
    (SeqAt.list_countAt a its.toArray n dd sl' uy (fun u => PyData.eqv (SeqAt.readOf s.heap u) d)) ⟨ho, SeqAt.items_eqAt (vs := its.toArray) (show ReadsAll s.heap its.toArray.toList ds as from h4) r1 hxs (SeqAt.canLay_of_shaped sd) hroom, ?_⟩
  refine ⟨.int ((ds.countP fun z => PyData.eqv z d : Nat) : Int), H, I.tok _, ⟨s.toks, ?_⟩, q⟩
  rw [← hmap, List.countP_map]; rfl
theorem countP_py {y : D} {k : Nat} (hy : dOk y k = true) : ∀ {xs : List D} {n : Nat}, dOks xs n = true → ((toPys xs).countP fun z => PyData.eqv z (toPy y)) = xs.countP fun z => eqD z y
  | [], _, _ => rfl
  | x :: xs, n, h => by
    have h' : dOk x n = true ∧ dOks xs n = true := by simpa [dOks] using h
    rw [toPys, List.countP_cons, List.countP_cons, toPy_eq _ _ _ _ h'.1 hy, countP_py hy h'.2]
theorem countD_ (hu : X.A.units + 65 < cLine) : MtD X "list.count" wCountD := by
  refine ⟨_, mt_countD hu, fun B u d us ds p ps H m R Q S h t => ?_⟩
  match ds, h with
  | [y], h =>
    obtain ⟨v, rfl, q⟩ := one_arg ps rfl
    obtain ⟨xs, h1, h2, h3, h4⟩ := h
    obtain ⟨a, vs, rfl, ha, pa⟩ := seqL S p h1
    have hs : dOk (.lst xs) 60 = true := by rw [dOk]; exact h3
    exact ⟨a, v, toPy y, vs, toPys xs, rfl, rfl, .inl (.inl ha), toPys_dp S.same pa h3, toPy_dp S.same q h2, toPy_shaped (d := .lst xs) hs (by decide), toPy_shaped h2 (by decide), by rw [countP_py h2 h3]; exact eff_ret S t (.int _) h4⟩
end
end DL
end
section
set_option maxHeartbeats 0
namespace DL
open PySem
structure Sk where
  row : Int
  place : Int
  sign : Nat
  red : Bool
deriving DecidableEq
def skOf (k : Mk) : Sk := ⟨k.row, k.place, k.sign, k.red⟩
def skD (s : Sk) : D := .tup [.int s.row, .int s.place, ch s.sign, colD s.red]
theorem mkB_sk (k : Mk) : mkB k = skD (skOf k) := rfl
def skLt (a b : Sk) : Bool := decide (a.row < b.row) || (decide (a.row = b.row) && (decide (a.place < b.place) || (decide (a.place = b.place) && (decide (a.sign < b.sign) || (decide (a.sign = b.sign) && (!a.red && b.red))))))
def dd {α : Type} [DecidableEq α] : List α → List α
  | [] => []
  | a :: l => if a ∈ l then dd l else a :: dd l
def uniqS (ss : List Sk) : List Sk := (dd ss).mergeSort (fun a b => !skLt b a)
def lookS (ss : List Sk) : List (Sk × Nat) := (uniqS ss).map fun s => (s, ss.count s)
def lkD (p : Sk × Nat) : D := .tup [.int p.1.row, .int p.1.place, ch p.1.sign, colD p.1.red, .int (p.2 : Int)]
def lookL (ss : List Sk) : List D := (lookS ss).map lkD
def sksS (c : Int) (dead : List Nat) (dn : Int) (ks : List Ky) : List Sk := (runL (newS c dead dn) ks).1.marks.map skOf
def ph_look_of (A : Ad) : FW := fun ds m R _ => ∃ (c : Int) (dead : List Nat) (dn : Int) (ks : List Ky), ds = [machD c dead dn, .tup (ks.map kyD)] ∧ MOk c dead dn ∧ (∀ k ∈ ks, kyOk k) ∧ ks.length ≤ 4000 ∧ (sksS c dead dn ks).length ≤ 76 ∧ R (.lst (lookL (sksS c dead dn ks))) m
def ph_look (A : Ad) : FW := fun ds m R x => ∃ dm dk, ds = [dm, dk] ∧ inBoth A m dm dk x fun c dead dn ks => (sksS c dead dn ks).length ≤ 76 ∧ R (.lst (lookL (sksS c dead dn ks))) m
def ph_same_look (A : Ad) : FW := fun ds m R x => ∃ dm d1 d2, ds = [dm, d1, d2] ∧ inBoth A m dm d1 x fun c dead dn ks => inKeys A m d2 x fun ks2 => (sksS c dead dn ks).length ≤ 76 ∧ (sksS c dead dn ks2).length ≤ 76 ∧ R (.bl (decide (lookS (sksS c dead dn ks) = lookS (sksS c dead dn ks2)))) m
def nsAt (ms : List Mk) (row place : Int) : List Int := (ms.filter fun k => decide (k.row = row) && decide (k.place = place)).map (·.n)
def ph_strikers (A : Ad) : FW := fun ds m R x => ∃ dm dk dr dp, ds = [dm, dk, dr, dp] ∧ inBoth A m dm dk x fun c dead dn ks => (tyN m dr).isSome = true ∧ (tyN m dp).isSome = true ∧
  if (wholeB dr 0 60 && wholeB dp 0 (2 * c)) = true then (∀ r p, dr = .int r → dp = .int p → R (.lst ((nsAt (marksS c dead dn ks) r p).map .int)) m) else x A.xNoPlace m
def ph__law_looks (A : Ad) : FW := fun ds m R _ => ∃ w m0 s, ds = [.ref w] ∧ Wk m0 w m s ∧ (∀ k ∈ s.marks, k.sign < 128) ∧ s.marks.length ≤ 76 ∧ R (.lst (lookL (s.marks.map skOf))) m
end DL
end
section
set_option maxHeartbeats 0
namespace DL
open PySem
section
variable {α : Type} [DecidableEq α]
theorem dd_mem {a : α} : ∀ {l : List α}, a ∈ dd l ↔ a ∈ l
  | [] => by simp [dd]
  | b :: l => by
    unfold dd
    split
    · rename_i h
      rw [dd_mem (l := l), List.mem_cons]
      exact ⟨.inr, fun z => z.elim (fun e => e ▸ h) id⟩
    · rw [List.mem_cons, dd_mem (l := l), List.mem_cons]
theorem dd_nodup : ∀ l : List α, (dd l).Nodup
  | [] => by simp [dd]
  | b :: l => by
    unfold dd
    split
    · exact dd_nodup l
    · rename_i h
      exact List.nodup_cons.mpr ⟨fun z => h (dd_mem.mp z), dd_nodup l⟩
theorem eqDs_map {α : Type} [DecidableEq α] {f : α → D} (h : ∀ a b, eqD (f a) (f b) = decide (a = b)) : ∀ xs ys : List α, eqDs (xs.map f) (ys.map f) = decide (xs = ys)
  | [], [] => by simp [eqDs]
  | [], _ :: _ => by simp [eqDs]
  | _ :: _, [] => by simp [eqDs]
  | x :: xs, y :: ys => by
    rw [List.map_cons, List.map_cons, eqDs, h, eqDs_map h xs ys]
    by_cases e : x = y <;> by_cases e2 : xs = ys <;> simp [e, e2]
end
theorem skLt_iff {a b : Sk} : skLt a b = true ↔ a.row < b.row ∨ (a.row = b.row ∧ (a.place < b.place ∨ (a.place = b.place ∧ (a.sign < b.sign ∨ (a.sign = b.sign ∧ a.red = false ∧ b.red = true))))) := by
  simp [skLt]
theorem skLt_no {a b : Sk} : skLt a b = false ↔ ¬ (a.row < b.row ∨ (a.row = b.row ∧ (a.place < b.place ∨ (a.place = b.place ∧ (a.sign < b.sign ∨ (a.sign = b.sign ∧ a.red = false ∧ b.red = true)))))) := by
  rw [← skLt_iff]; simp
def redN (b : Bool) : Nat := if b then 1 else 0
theorem skLt_no' {a b : Sk} : skLt a b = false ↔ ¬ (a.row < b.row ∨ (a.row = b.row ∧ (a.place < b.place ∨ (a.place = b.place ∧ (a.sign < b.sign ∨ (a.sign = b.sign ∧ redN a.red < redN b.red)))))) := by
  rw [skLt_no]
  cases a.red <;> cases b.red <;> simp [redN]
theorem redN_inj {a b : Bool} (h : redN a = redN b) : a = b := by cases a <;> cases b <;> simp [redN] at h ⊢
theorem skLt_anti {a b : Sk} (h1 : skLt a b = false) (h2 : skLt b a = false) : a = b := by
  rw [skLt_no'] at h1 h2
  have e4 := redN_inj (a := a.red) (b := b.red) (by omega)
  obtain ⟨a1, a2, a3, a4⟩ := a
  obtain ⟨b1, b2, b3, b4⟩ := b
  simp only at *
  subst e4
  have : a1 = b1 := by omega
  have : a2 = b2 := by omega
  have : a3 = b3 := by omega
  subst_vars; rfl
theorem uniqS_perm (ss : List Sk) : (uniqS ss).Perm (dd ss) := List.mergeSort_perm _ _
theorem uniqS_mem {ss : List Sk} {a : Sk} : a ∈ uniqS ss ↔ a ∈ ss := by rw [(uniqS_perm ss).mem_iff, dd_mem]
theorem uniqS_nodup (ss : List Sk) : (uniqS ss).Nodup := (uniqS_perm ss).nodup_iff.mpr (dd_nodup ss)
theorem uniqS_le (ss : List Sk) : (uniqS ss).Pairwise (fun a b => skLt b a = false) := by
  have h := List.pairwise_mergeSort (le := fun a b : Sk => !skLt b a) (fun a b c h1 h2 => ?_) (fun a b => ?_) (dd ss)
  · exact h.imp fun h => by simpa using h
  · simp only [Bool.not_eq_true'] at h1 h2 ⊢
    rw [skLt_no'] at h1 h2 ⊢
    omega
  · rw [Bool.or_eq_true]
    simp only [Bool.not_eq_true']
    rw [skLt_no', skLt_no']
    omega
theorem uniqS_is {ss es : List Sk} (hn : es.Nodup) (hm : ∀ a, a ∈ es ↔ a ∈ ss) (hs : es.Pairwise (fun a b => skLt b a = false)) : es = uniqS ss :=
  sort_uniq (le := fun a b => skLt b a = false) (fun x _ y _ h1 h2 => skLt_anti h2 h1) hs (uniqS_le ss) ((List.perm_ext_iff_of_nodup hn (uniqS_nodup ss)).mpr fun a => by rw [hm, uniqS_mem])
theorem lookS_perm {a b : List Sk} (h : a.Perm b) : lookS a = lookS b := by
  unfold lookS
  rw [uniqS_is (ss := b) (uniqS_nodup a) (fun x => by rw [uniqS_mem, h.mem_iff]) (uniqS_le a)]
  exact List.map_congr_left fun s _ => by rw [h.count_eq]
theorem lookS_count {ss : List Sk} {s : Sk} {n : Nat} (h : (s, n) ∈ lookS ss) : n = ss.count s := by
  obtain ⟨s', _, e⟩ := List.mem_map.mp h
  cases e; rfl
theorem lookS_inj {a b : List Sk} (h : lookS a = lookS b) : a.Perm b := by
  refine List.perm_iff_count.mpr fun s => ?_
  have key : ∀ {a b : List Sk}, lookS a = lookS b → s ∈ a → a.count s = b.count s := fun {a b} h hs => by
    have : (s, a.count s) ∈ lookS a := List.mem_map.mpr ⟨s, uniqS_mem.mpr hs, rfl⟩
    rw [h] at this
    exact lookS_count this
  by_cases ha : s ∈ a
  · exact key h ha
  · by_cases hb : s ∈ b
    · exact (key h.symm hb).symm
    · rw [List.count_eq_zero_of_not_mem ha, List.count_eq_zero_of_not_mem hb]
theorem look_iff {a b : List Sk} : lookS a = lookS b ↔ a.Perm b := ⟨lookS_inj, lookS_perm⟩
theorem lookL_perm {a b : List Sk} (h : a.Perm b) : lookL a = lookL b := by unfold lookL; rw [lookS_perm h]
theorem eq_lk (p q : Sk × Nat) : eqD (lkD p) (lkD q) = decide (p = q) := by
  obtain ⟨⟨a1, a2, a3, a4⟩, n⟩ := p
  obtain ⟨⟨b1, b2, b3, b4⟩, k⟩ := q
  rw [Bool.eq_iff_iff]
  simp [lkD, eqD, eqDs, eq_col]
  constructor
  · rintro ⟨h1, h2, h3, h4, h5⟩; exact ⟨⟨h1, h2, h3, h4⟩, by omega⟩
  · rintro ⟨⟨h1, h2, h3, h4⟩, h5⟩; exact ⟨h1, h2, h3, h4, by omega⟩
theorem eq_look (a b : List Sk) : eqD (.lst (lookL a)) (.lst (lookL b)) = decide (lookS a = lookS b) := by
  rw [eqD]; exact eqDs_map eq_lk _ _
theorem eq_sk (p q : Sk) : eqD (skD p) (skD q) = decide (p = q) := by
  obtain ⟨a1, a2, a3, a4⟩ := p
  obtain ⟨b1, b2, b3, b4⟩ := q
  simp [skD, eqD, eqDs, eq_col]
theorem eq_sks (a b : List Sk) : eqD (.lst (a.map skD)) (.lst (b.map skD)) = decide (a = b) := by
  rw [eqD]; exact eqDs_map eq_sk _ _
theorem ok_sk (s : Sk) (n : Nat) (h : s.sign < 128) : dOk (skD s) (n + 1) = true := by
  simp [skD, dOk, dOks, ok_col, okS]; omega
theorem ok_lk (p : Sk × Nat) (n : Nat) (h : p.1.sign < 128) : dOk (lkD p) (n + 1) = true := by
  simp [lkD, dOk, dOks, ok_col, okS]; omega
theorem lookS_mem {ss : List Sk} {p : Sk × Nat} (h : p ∈ lookS ss) : p.1 ∈ ss := by
  obtain ⟨s, hs, rfl⟩ := List.mem_map.mp h
  exact uniqS_mem.mp hs
theorem ok_look {ss : List Sk} (n : Nat) (h : ∀ s ∈ ss, s.sign < 128) : dOk (.lst (lookL ss)) (n + 2) = true := by
  rw [dOk]
  refine doks_all fun d hd => ?_
  obtain ⟨p, hp, rfl⟩ := List.mem_map.mp hd
  exact ok_lk p n (h p.1 (lookS_mem hp))
theorem ok_sks {ss : List Sk} (n : Nat) (h : ∀ s ∈ ss, s.sign < 128) : dOk (.lst (ss.map skD)) (n + 2) = true := by
  rw [dOk]
  refine doks_all fun d hd => ?_
  obtain ⟨p, hp, rfl⟩ := List.mem_map.mp hd
  exact ok_sk p n (h p hp)
theorem skD_inj {a b : Sk} (h : skD a = skD b) : a = b := by
  have := eq_sk a b
  rw [h] at this
  have h2 := eq_sk b b
  rw [this] at h2
  simpa using h2
theorem ltD_col (a b : Bool) : ltD (.tup [colD a]) (.tup [colD b]) = (!a && b) := by
  have hal : ∀ x y : Bool, alikeD (colD x) (colD y) = true := fun x y => by cases x <;> cases y <;> rfl
  rw [ltD_cons (hal a b) (ok_col a 1) (ok_col b 1), eq_col, ltD_nil]
  have e1 : ∀ x y : Str, ltD (.str x) (.str y) = decide (x.cps.toList < y.cps.toList) := ltD_str
  have b1 : (PySem.Str.ofString "black").cps.toList = [98, 108, 97, 99, 107] := by decide +kernel
  have b2 : (PySem.Str.ofString "red").cps.toList = [114, 101, 100] := by decide +kernel
  have c1 : ltD (colD false) (colD true) = true := by show ltD (.str _) (.str _) = true; rw [e1, b1, b2]; decide
  have c2 : ltD (colD true) (colD false) = false := by show ltD (.str _) (.str _) = false; rw [e1, b1, b2]; decide
  cases a <;> cases b <;> simp [c1, c2]
theorem ltD_sk {a b : Sk} (ha : a.sign < 128) (hb : b.sign < 128) : ltD (skD a) (skD b) = skLt a b := by
  have i : ∀ (i : Int) (n : Nat), dOk (.int i) n = true := fun _ _ => rfl
  simp only [skD]
  rw [ltD_cons (alikeD_int _ _) (i _ 1) (i _ 1), ltD_cons (alikeD_int _ _) (i _ 1) (i _ 1), ltD_cons (alikeD_str _ _) (ok_ch a.sign 1 ha) (ok_ch b.sign 1 hb), ltD_col, ltD_int, ltD_int, ltD_str]
  have c1 : eqD (.int a.row) (.int b.row) = decide (a.row = b.row) := by simp [eqD]
  have c2 : eqD (.int a.place) (.int b.place) = decide (a.place = b.place) := by simp [eqD]
  have c3 : eqD (ch a.sign) (ch b.sign) = decide (a.sign = b.sign) := by simp [eqD]
  have e2 : decide ((⟨#[a.sign]⟩ : Str).cps.toList < (⟨#[b.sign]⟩ : Str).cps.toList) = decide (a.sign < b.sign) := by simp
  simp only [c1, c2, c3, e2, skLt]
  by_cases h1 : a.row = b.row
  · by_cases h2 : a.place = b.place
    · by_cases h3 : a.sign = b.sign
      · simp [h1, h2, h3]
      · simp [h1, h2, h3]
    · simp [h1, h2]
  · simp [h1]
theorem sk_alike (a b : Sk) : alikeD (skD a) (skD b) = true := mkB_alike ⟨0, a.row, a.place, a.sign, a.red⟩ ⟨0, b.row, b.place, b.sign, b.red⟩
theorem nk_col (b : Bool) (n : Nat) : nkOk (colD b) n = true := by
  have := ok_col b n
  cases b <;> simpa [colD, wordD, nkOk, dOk] using this
theorem nk_sk (s : Sk) (h : s.sign < 128) : nkOk (skD s) 8 = true := by
  have := ok_ch s.sign 7 h
  simp only [skD, nkOk, nkOks, nk_col]
  simpa [dOk] using this
theorem uniqS_len (ss : List Sk) : (uniqS ss).length ≤ ss.length := nodup_le (uniqS_nodup ss) fun d hd => uniqS_mem.mp hd
theorem few_of {f : Sk → D} {ss : List Sk} (hl : (uniqS ss).length ≤ 76) : ∀ es : List D, es.Nodup → (∀ d ∈ es, d ∈ ss.map f) → es.length ≤ 76 := fun es nd h => by
  obtain ⟨ys, rfl, hy⟩ := pick_map (f := f) (xs := ss) (L := es) h
  rw [List.length_map]
  exact Nat.le_trans (nodup_le ((List.pairwise_map.mp nd).imp fun h e => h (by rw [e])) fun y hm => uniqS_mem.mpr (hy y hm)) hl
theorem srtset_skU {ss : List Sk} {b : Bool} {m : Store} {R : KD} {a : WE} {r : Env} {x : XD} (hs : ∀ s ∈ ss, s.sign < 128) (hl : (uniqS ss).length ≤ 76) (ha : ∀ K : KD, K (.lst (ss.map skD)) m → a r m K x) (h : wNw b ((uniqS ss).map skD) m R) : wSrtSetD b a r m R x := by
  refine ha _ ⟨ss.map skD, rfl, ⟨fun d hd => ?_, fun d hd e he => ?_, fun d hd => ?_, few_of hl⟩, fun es h1 h2 h3 => ?_⟩
  · obtain ⟨s, h', rfl⟩ := List.mem_map.mp hd; exact nk_sk s (hs s h')
  · obtain ⟨s, _, rfl⟩ := List.mem_map.mp hd; obtain ⟨s', _, rfl⟩ := List.mem_map.mp he; exact sk_alike s s'
  · obtain ⟨s, _, rfl⟩ := List.mem_map.mp hd; exact ⟨_, _, rfl⟩
  · obtain ⟨ys, rfl, hy⟩ := pick_map (f := skD) (xs := ss) (L := es) fun d hd => (h2 d).mp hd
    have e : ys = uniqS ss := by
      refine uniqS_is ((List.pairwise_map.mp h1).imp fun h e => h (by rw [e])) (fun a => ⟨hy a, fun ha => ?_⟩) ?_
      · obtain ⟨y, hy1, e⟩ := List.mem_map.mp ((h2 (skD a)).mpr (List.mem_map.mpr ⟨a, ha, rfl⟩))
        rw [← skD_inj e]; exact hy1
      · refine (List.pairwise_map.mp h3).imp_of_mem fun {p q} hp hq h => ?_
        rw [← ltD_sk (hs q (hy q hq)) (hs p (hy p hp))]; exact h
    rw [e]; exact h
theorem srtset_sk {ss : List Sk} {b : Bool} {m : Store} {R : KD} {a : WE} {r : Env} {x : XD} (hs : ∀ s ∈ ss, s.sign < 128) (hl : ss.length ≤ 76) (ha : ∀ K : KD, K (.lst (ss.map skD)) m → a r m K x) (h : wNw b ((uniqS ss).map skD) m R) : wSrtSetD b a r m R x := srtset_skU hs (Nat.le_trans (uniqS_len ss) hl) ha h
theorem count_sk (ss : List Sk) (s : Sk) : (ss.map skD).countP (fun z => eqD z (skD s)) = ss.count s := by
  rw [List.countP_map, List.count_eq_countP]
  congr 1
  funext z
  simp only [Function.comp]
  rw [eq_sk]; rfl
theorem lc_look {ss : List Sk} {i j : Nat} {r : Env} {m : Store} {R : KD} {x : XD} (hs : ∀ s ∈ ss, s.sign < 128) (hl : ss.length ≤ 76) (hi : get r i = some (.lst (ss.map skD))) (hij : ∀ d, get (put (put r j none) j (some d)) i = some (.lst (ss.map skD))) (hjj : ∀ d, get (put (put r j none) j (some d)) j = some d) (h : R (.lst (lookL ss)) m) :
    wLc false [j] (iSeq (wSrtSetD false (wVar i))) (gNm j) (wYes) (wOp (wAdd false) (wVar j) (wTup (wCons (wMt "list" wCountD (wVar i) (wCons (wVar j) (wNil))) (wNil)))) r m R x := by
  have L : LIM = 16777216 := rfl
  have hul : (uniqS ss).length ≤ ss.length := by
    have := (uniqS_perm ss).length_eq
    have : ∀ l : List Sk, (dd l).length ≤ l.length := fun l => by
      induction l with
      | nil => simp [dd]
      | cons a l ih => unfold dd; split <;> simp <;> omega
    have := this ss
    omega
  simp only [e_lc, e_seqI]
  refine srtset_sk hs hl (fun K hK => by simp only [e_var, hi, ok_some]; exact hK) ?_
  simp only [e_nwF, asI]
  refine lc_map (G := fun _ => True) skD (fun s => lkD (s, ss.count s)) trivial (uniqS ss) [] _ (by simp; omega) (fun s hsm K1 hK => ?_) ?_
  · simp only [wipeS, wipe0, e_op, e_var, hjj, hij, ok_some, e_tup, e_cons, e_nil, e_mt, tyM, wCountD]
    refine ⟨trivial, ss.map skD, rfl, ok_sk s 58 (hs s (uniqS_mem.mp hsm)), ?_, by show 1 ≤ LIM; decide, ?_⟩
    · exact doks_all fun d hd => by obtain ⟨p, hp, rfl⟩ := List.mem_map.mp hd; exact ok_sk p 58 (hs p hp)
    · rw [count_sk]
      exact ⟨by show 4 + 1 ≤ LIM; decide, hK⟩
  · rw [List.nil_append]
    simpa [lookL, lookS, List.map_map, Function.comp_def] using h
end DL
end
section
set_option maxHeartbeats 0
namespace DL
open PySem
theorem ok_ref (k : Nat) : dOk (refD k) 60 = true := by
  simp only [refD]; rw [dOk, dOks, dOks, dOks]
  have := ok_word "refused" 59 (by decide +kernel)
  simp only [wordD] at this
  rw [this]; rfl
theorem eq_same {xs : List D} {m : Store} {R : KD} (h : dOk (.tup xs) 60 = true) (hR : R (.bl true) m) : wEq (.tup xs) (.tup xs) m R := ⟨h, h, by simp only [rv]; rw [eqD_refl _ _ h]; exact hR⟩
theorem ne_same {xs : List D} {m : Store} {R : KD} (h : dOk (.tup xs) 60 = true) (hR : R (.bl false) m) : wNe (.tup xs) (.tup xs) m R := eq_same h hR
theorem eq_ref {k : Nat} {m : Store} {R : KD} (hR : R (.bl true) m) : wEq (refD k) (refD k) m R := eq_same (ok_ref k) hR
theorem ne_ref {k : Nat} {m : Store} {R : KD} (hR : R (.bl false) m) : wNe (refD k) (refD k) m R := ne_same (ok_ref k) hR
theorem refT (k : Nat) : D.tup [.str (PySem.Str.ofString "refused"), .int k] = refD k := rfl
theorem wEqI (i j : Int) (m : Store) (R : KD) : wEq (.int i) (.int j) m R = R (.bl (decide (i = j))) m := rfl
theorem wNeI (i j : Int) (m : Store) (R : KD) : wNe (.int i) (.int j) m R = R (.bl (!decide (i = j))) m := rfl
theorem str_app (a b : List Nat) : (⟨a.toArray⟩ : Str) ++ (⟨b.toArray⟩ : Str) = ⟨(a ++ b).toArray⟩ := by
  show PySem.Str.append _ _ = _
  simp [PySem.Str.append]
theorem join_chars : ∀ cs : List Nat, Str.join ⟨#[]⟩ (cs.map fun c => (⟨#[c]⟩ : Str)) = ⟨cs.toArray⟩
  | [] => rfl
  | [c] => rfl
  | c :: d :: cs => by
    have ih := join_chars (d :: cs)
    simp only [List.map_cons] at ih ⊢
    rw [Str.join, ih]
    · have e1 : (⟨#[c]⟩ : Str) ++ (⟨#[]⟩ : Str) = ⟨#[c]⟩ := rfl
      rw [e1]
      exact str_app [c] (d :: cs)
    · simp
theorem join_ok {cs : List Nat} {m : Store} {R : KD} {d : D} (hd : asQ m d = some (cs.map ch)) (hl : cs.length ≤ 1000000) (h : R (.str ⟨cs.toArray⟩) m) : wJoin (.str ⟨#[]⟩) [d] m R := by
  have L : LIM = 16777216 := rfl
  refine ⟨cs.map fun c => ⟨#[c]⟩, by rw [hd]; simp, ?_, by rw [join_chars]; exact h⟩
  have : ((cs.map fun c => (⟨#[c]⟩ : Str)).map (·.length)).sum = cs.length := by
    clear hd h hl
    induction cs with
    | nil => rfl
    | cons a l ih => simp [PySem.Str.length] at ih ⊢; omega
  rw [this]
  simp [PySem.Str.length]; omega
theorem ok_kys (ks : List Ky) (hk : ∀ k ∈ ks, kyOk k) : dOk (.tup (ks.map kyD)) 60 = true := by
  rw [dOk]
  refine doks_all fun d hd => ?_
  obtain ⟨k, hk', rfl⟩ := List.mem_map.mp hd
  exact ky_ok (hk k hk') 58
end DL
end
section
set_option maxHeartbeats 0
namespace DL
open PySem
def psi_look_of (A : Ad) : WS := wSeq (wSet 2 (wLc false [3] (iSeq (wCall 2 (ph_marks_of A) (wCons (wVar 0) (wCons (wVar 1) (wNil))))) (gNm 3) (wYes) (wSl (wCut false) (wVar 3) (oSome (wC (.int 1))) (oNone)))) (wRet (wLc false [4] (iSeq (wSrtSetD false (wVar 2))) (gNm 4) (wYes) (wOp (wAdd false) (wVar 4) (wTup (wCons (wMt "list" wCountD (wVar 2) (wCons (wVar 4) (wNil))) (wNil))))))
def psi_look (A : Ad) : WS := wSeq (wExp (wCall 2 (ph_need_both A) (wCons (wVar 0) (wCons (wVar 1) (wNil))))) (wRet (wCall 2 (ph_look_of A) (wCons (wVar 0) (wCons (wVar 1) (wNil)))))
def psi_same_look (A : Ad) : WS := wSeq (wExp (wCall 2 (ph_need_both A) (wCons (wVar 0) (wCons (wVar 1) (wNil))))) (wSeq (wExp (wCall 1 (ph_need_keys A) (wCons (wVar 2) (wNil)))) (wRet (wOp wEq (wCall 2 (ph_look_of A) (wCons (wVar 0) (wCons (wVar 1) (wNil)))) (wCall 2 (ph_look_of A) (wCons (wVar 0) (wCons (wVar 2) (wNil)))))))
def psi_strikers (A : Ad) : WS := wSeq (wExp (wCall 2 (ph_need_both A) (wCons (wVar 0) (wCons (wVar 1) (wNil))))) (wSeq (wIfS (wOr (wNot (wTest (wCall 3 (ph_is_whole A) (wCons (wVar 2) (wCons (wC (.int 0)) (wCons (wC (.int 60)) (wNil))))))) (wNot (wTest (wCall 3 (ph_is_whole A) (wCons (wVar 3) (wCons (wC (.int 0)) (wCons (wCall 1 (ph_end_of A) (wCons (wVar 0) (wNil))) (wNil)))))))) (wRaise A.xNoPlace) (wNext)) (wRet (wLc false [4] (iSeq (wCall 2 (ph_marks_of A) (wCons (wVar 0) (wCons (wVar 1) (wNil))))) (gNm 4) (wTest (wOp wEq (wSl (wCut false) (wVar 4) (oSome (wC (.int 1))) (oSome (wC (.int 3)))) (wTup (wCons (wVar 2) (wCons (wVar 3) (wNil)))))) (wOp wIx (wVar 4) (wC (.int 0))))))
end DL
end
section
set_option maxHeartbeats 0
namespace DL
open PySem
def psi__law_looks (A : Ad) : WS := wSeq (wSet 1 (wLc false [2] (iSeq (wOp wDGet (wVar 0) (wC (.str (PySem.Str.ofString "marks"))))) (gNm 2) (wYes) (wSl (wCut false) (wVar 2) (oSome (wC (.int 1))) (oNone)))) (wRet (wLc false [3] (iSeq (wSrtSetD false (wVar 1))) (gNm 3) (wYes) (wOp (wAdd false) (wVar 3) (wTup (wCons (wMt "list" wCountD (wVar 1) (wCons (wVar 3) (wNil))) (wNil))))))
end DL
end
section
set_option maxHeartbeats 0
namespace DL
open PySem
theorem marks_sk (c : Int) (dead : List Nat) (dn : Int) (ks : List Ky) : ((marksS c dead dn ks).map skOf).Perm (sksS c dead dn ks) := (sortM_perm _).map skOf
theorem sks_lt {c : Int} {dead : List Nat} {dn : Int} {ks : List Ky} (hk : ∀ k ∈ ks, kyOk k) : ∀ s ∈ sksS c dead dn ks, s.sign < 128 := fun s hs => by
  obtain ⟨k, hk', rfl⟩ := List.mem_map.mp hs
  exact (run_sm hk (new_sm c dead dn)).g k hk'
theorem sks_len {c : Int} {dead : List Nat} {dn : Int} {ks : List Ky} (hk : ∀ k ∈ ks, kyOk k) : (sksS c dead dn ks).length ≤ ks.length := by
  have := (run_sm hk (new_sm c dead dn)).m
  simp only [sksS, List.length_map]; omega
theorem cut_mk (k : Mk) (m : Store) (K : KD) : wCut false (mkD k) (some 1) none m K = K (skD (skOf k)) m := by
  show K (.tup (cutL [D.int k.n, .int k.row, .int k.place, ch k.sign, colD k.red] (some 1) none)) m = _
  rw [mk_cut]; rfl
variable {A : Ad} (hA : AdOk A)
include hA
theorem dt_look_of : ∀ ds m R x, ph_look_of A ds m R x → psi_look_of A (startD 5 ds) m (endD R x) := by
  rintro ds m R x ⟨c, dead, dn, ks, rfl, hM, hk, hl, h76, h⟩
  have L : LIM = 16777216 := rfl
  have hp := marks_sk c dead dn ks
  have hlt := sks_lt (c := c) (dead := dead) (dn := dn) hk
  have hlen : (marksS c dead dn ks).length ≤ 76 := by have := hp.length_eq; simp at this; omega
  simp [psi_look_of]
  refine ⟨c, dead, dn, ks, rfl, hM, hk, hl, ?_⟩
  simp only [asI]
  refine lc_map (G := fun _ => True) mkD (fun k => skD (skOf k)) trivial (marksS c dead dn ks) [] _ (by simp; omega) (fun k hk K1 hK => ?_) ?_
  · simp only [putS, put0, e_sl, e_oSome, e_oNone, e_var, e_c, getS, get0, ok_some, cut_mk]
    exact hK
  · rw [List.nil_append, show (marksS c dead dn ks).map (fun k => skD (skOf k)) = ((marksS c dead dn ks).map skOf).map skD by simp]
    have h' := lc_look (ss := (marksS c dead dn ks).map skOf) (i := 2) (j := 4) (r := [some (machD c dead dn), some (.tup (ks.map kyD)), some (.lst (((marksS c dead dn ks).map skOf).map skD)), none, none]) (m := m) (R := R) (x := x) (fun s hs => hlt s (hp.mem_iff.mp hs)) (by simpa using hlen) rfl (fun d => rfl) (fun d => rfl) (by rw [lookL_perm hp]; exact h)
    exact h'
theorem dt__law_looks : ∀ ds m R x, ph__law_looks A ds m R x → psi__law_looks A (startD 4 ds) m (endD R x) := by
  rintro ds m R x ⟨w, m0, s, rfl, ⟨ta, ma, ra, W⟩, hg, hl, h⟩
  have L : LIM = 16777216 := rfl
  have d1 : ∀ K : KD, wDGet (.ref w) (.str (PySem.Str.ofString "marks")) m K = K (.ref ma) m ∨ True := fun _ => .inr trivial
  simp [psi__law_looks]
  refine ⟨_, W.hw, ?_⟩
  have e1 : lookK (wkD s ta ma ra) (.inr (PySem.Str.ofString "marks")) = some (.ref ma) := by simp [wkD, lookK, key]
  simp only [keyD, ok_some, e1, asI, W.hm]
  refine lc_map (G := fun m' => m' ma = some (.lst (s.marks.map mkD))) mkD (fun k => skD (skOf k)) W.hm s.marks [] _ (by simp; omega) (fun k hk K1 hK => ?_) ?_
  · simp only [putS, put0, e_sl, e_oSome, e_oNone, e_var, e_c, getS, get0, ok_some, cut_mk]
    exact hK
  · rw [List.nil_append, show s.marks.map (fun k => skD (skOf k)) = (s.marks.map skOf).map skD by simp]
    have h' := lc_look (ss := s.marks.map skOf) (i := 1) (j := 3) (r := [some (.ref w), some (.lst ((s.marks.map skOf).map skD)), none, none]) (m := m) (R := R) (x := x) (fun s hs => by obtain ⟨k, hk, rfl⟩ := List.mem_map.mp hs; exact hg k hk) (by simpa using hl) rfl (fun d => rfl) (fun d => rfl) h
    exact h'
theorem dt_look : ∀ ds m R x, ph_look A ds m R x → psi_look A (startD 2 ds) m (endD R x) := by
  rintro ds m R x ⟨dm, dk, rfl, h⟩
  simp [psi_look]
  refine ⟨dm, dk, rfl, h.imp fun c dead dn ks e hM e2 hk hl hR => ?_⟩
  subst e e2
  exact ⟨c, dead, dn, ks, rfl, hM, fun k hk' => kyG_ok (hk k hk'), hl, hR.1, hR.2⟩
theorem dt_same_look : ∀ ds m R x, ph_same_look A ds m R x → psi_same_look A (startD 3 ds) m (endD R x) := by
  rintro ds m R x ⟨dm, d1, d2, rfl, h⟩
  simp [psi_same_look]
  refine ⟨dm, d1, rfl, h.imp fun c dead dn ks e hM e2 hk hl hR => ⟨d2, rfl, hR.imp fun ks2 e3 hk2 hl2 hQ => ?_⟩⟩
  subst e e2 e3
  clear hR
  have hR := hQ
  have k1 : ∀ k ∈ ks, kyOk k := fun k hk' => kyG_ok (hk k hk')
  have k2 : ∀ k ∈ ks2, kyOk k := fun k hk' => kyG_ok (hk2 k hk')
  refine ⟨c, dead, dn, ks, rfl, hM, k1, hl, hR.1, c, dead, dn, ks2, rfl, hM, k2, hl2, hR.2.1, ?_⟩
  refine ⟨ok_look 58 (sks_lt k1), ok_look 58 (sks_lt k2), ?_⟩
  simp only [rv]
  rw [eq_look]; exact hR.2.2
omit hA in
theorem cut_rp (k : Mk) (m : Store) (K : KD) : wCut false (mkD k) (some 1) (some 3) m K = K (.tup [.int k.row, .int k.place]) m := rfl
theorem dt_strikers : ∀ ds m R x, ph_strikers A ds m R x → psi_strikers A (startD 5 ds) m (endD R x) := by
  rintro ds m R x ⟨dm, dk, dr, dp, rfl, h⟩
  have L : LIM = 16777216 := rfl
  simp [psi_strikers]
  refine ⟨dm, dk, rfl, h.imp fun c dead dn ks e hM e2 hk hl hR => ?_⟩
  subst e e2
  obtain ⟨t1, t2, h⟩ := hR
  have k1 : ∀ k ∈ ks, kyOk k := fun k hk' => kyG_ok (hk k hk')
  refine ⟨dr, 0, 60, rfl, t1, ?_⟩
  cases h1 : wholeB dr 0 60 with
  | false => simp [h1] at h ⊢; exact h
  | true =>
    simp only [h1, Bool.true_and] at h
    simp
    refine ⟨c, dead, dn, rfl, hM, dp, 0, 2 * c, rfl, t2, ?_⟩
    cases h2 : wholeB dp 0 (2 * c) with
    | false => simp [h2] at h ⊢; exact h
    | true =>
      simp only [h2, if_true] at h
      obtain ⟨r, rfl⟩ : ∃ r, dr = .int r := by cases dr <;> simp [wholeB] at h1; exact ⟨_, rfl⟩
      obtain ⟨p, rfl⟩ : ∃ p, dp = .int p := by cases dp <;> simp [wholeB] at h2; exact ⟨_, rfl⟩
      have h := h r p rfl rfl
      simp
      refine ⟨c, dead, dn, ks, rfl, hM, k1, hl, ?_⟩
      have hsm := run_sm k1 (new_sm c dead dn)
      have hlen : (marksS c dead dn ks).length ≤ 4000 := by
        have := hsm.m
        have e : (marksS c dead dn ks).length = _ := (sortM_perm _).length_eq
        omega
      simp only [asI]
      have key : ∀ (xs : List Mk) (acc : List D) (K : List D → Store → Prop), acc.length + xs.length ≤ LIM → K (acc ++ (nsAt xs r p).map .int) m →
          wLcL (fun _ => True) [4] (gNm 4) (wTest (wOp wEq (wSl (wCut false) (wVar 4) (oSome (wC (.int 1))) (oSome (wC (.int 3)))) (wTup (wCons (wVar 2) (wCons (wVar 3) (wNil)))))) (wOp wIx (wVar 4) (wC (.int 0))) [some (machD c dead dn), some (.tup (ks.map kyD)), some (.int r), some (.int p), none] (xs.map mkD) acc m K := by
        intro xs
        induction xs with
        | nil => intro acc K _ hK; exact ⟨trivial, by simpa [nsAt] using hK⟩
        | cons k xs ih =>
          intro acc K hl hK
          simp only [List.length_cons] at hl
          refine ⟨trivial, ?_⟩
          have i0 : ∀ K : KD, wIx (mkD k) (.int 0) m K = K (.int k.n) m := fun _ => rfl
          simp only [g_nm, wipeS, wipe0, putS, put0, e_test, e_op, e_sl, e_oSome, e_var, e_c, getS, get0, ok_some, cut_rp, e_tup, e_cons, e_nil, i0]
          refine ⟨by show 2 ≤ LIM; decide, rfl, rfl, ?_⟩
          have e : eqD (.tup [.int k.row, .int k.place]) (.tup [.int r, .int p]) = (decide (k.row = r) && decide (k.place = p)) := by simp [eqD, eqDs]
          simp only [rv, e]
          by_cases hb : (decide (k.row = r) && decide (k.place = p)) = true
          · rw [if_pos hb]
            refine ⟨by omega, ih _ K (by simp; omega) ?_⟩
            simpa [nsAt, List.filter_cons, hb] using hK
          · rw [if_neg hb]
            refine ih _ K (by omega) ?_
            have hb' : (decide (k.row = r) && decide (k.place = p)) = false := by simpa using hb
            unfold nsAt at hK ⊢
            rw [List.filter_cons, hb'] at hK
            simpa using hK
      exact key (marksS c dead dn ks) [] _ (by simp; omega) (by simpa using h)
end DL
end
section
set_option maxHeartbeats 0
namespace DL
open PySem
structure AW where
  c : Int
  dead : List Nat
  dn : Int
  row : Int
  place : Int
  low : Int
  high : Int
  tabs : List Int
  red : Bool
  caps : Bool
  free : Bool
  marks : List Sk
def abs (s : LW) : AW := ⟨s.c, s.dead, s.dn, s.row, s.place, s.low, s.high, s.tabs, s.red, s.caps, s.free, s.marks.map skOf⟩
def remL {α : Type} (p : α → Bool) : List α → Option (α × List α)
  | [] => none
  | a :: l => match remL p l with
    | some (x, r) => some (x, a :: r)
    | none => if p a then some (a, l) else none
def strikeS (w : String) (s : Sk) : D := .tup [wordD w, .int s.row, .int s.place, ch s.sign, colD s.red]
def asA (s : AW) (c : Nat) : Nat := if s.caps then upC c else c
def shutA (s : AW) (p : Int) : Bool := decide (2 * s.c < p) || (!s.free && decide (s.high < p))
def likeA (s : AW) (c : Nat) (k : Sk) : Bool := decide (k.row = s.row) && decide (k.place = s.place) && decide (k.sign = asA s c)
def inkMA (s : AW) (st : Bool) (c : Nat) : List Sk × D :=
  if st then (s.marks ++ [⟨s.row, s.place, asA s c, s.red⟩], strikeS "struck" ⟨s.row, s.place, asA s c, s.red⟩)
  else match remL (likeA s c) s.marks with
    | none => (s.marks, nothD s.row s.place)
    | some (k, r) => (r, strikeS "lifted" k)
def inkA (s : AW) (st : Bool) (c : Nat) : AW × D :=
  if shutA s (s.place + 2) = true then (s, lockD)
  else ({ s with marks := (inkMA s st c).1, place := if c ∈ s.dead then s.place else s.place + 2 }, (inkMA s st c).2)
def turnA (s : AW) : Ky → AW × D
  | .left => if s.place < s.high then ({ s with low := s.place }, doneD) else (s, lockD)
  | .right => if s.low < s.place then ({ s with high := s.place }, doneD) else (s, lockD)
  | .set => ({ s with tabs := s.tabs.filter (fun t => decide (t ≠ s.place)) ++ [s.place] }, doneD)
  | .clear => if s.place ∈ s.tabs then ({ s with tabs := s.tabs.filter (fun t => decide (t ≠ s.place)) }, doneD) else (s, lockD)
  | .all => ({ s with tabs := [] }, doneD)
  | .free => ({ s with free := true }, doneD)
  | .ribbon => ({ s with red := !s.red }, doneD)
  | .caps => ({ s with caps := !s.caps }, doneD)
  | _ => (s, doneD)
def onA (s : AW) (p : Int) : AW × D := if shutA s p = true then (s, lockD) else ({ s with place := p }, movedD s.row p)
def rowA (s : AW) (r : Int) (home : Bool) : AW × D :=
  if r < 0 ∨ 60 < r then (s, lockD) else if home then ({ s with row := r, place := s.low, free := false }, movedD r s.low) else ({ s with row := r }, movedD r s.place)
def tabA (s : AW) : Int := ((s.tabs.filter fun t => decide (s.place < t)) ++ [999]).min?.getD 0
def actA (s : AW) : Ky → AW × D
  | .sign c => inkA s true c
  | .lift c => inkA s false c
  | .back => if s.place < 2 ∨ (s.free = false ∧ s.low ≤ s.place ∧ s.place - 2 < s.low) then (s, lockD) else ({ s with place := s.place - 2 }, movedD s.row (s.place - 2))
  | .ret => rowA s (s.row + s.dn) true
  | .up => rowA s (s.row - 1) false
  | .down => rowA s (s.row + 1) false
  | .blank => onA s (s.place + 2)
  | .half => onA s (s.place + 1)
  | .tab => onA s (tabA s)
  | k => turnA s k
def runA (s : AW) : List Ky → AW × List D
  | [] => (s, [])
  | k :: ks => ((runA (actA s k).1 ks).1, (actA s k).2 :: (runA (actA s k).1 ks).2)
def newA (c : Int) (dead : List Nat) (dn : Int) : AW := ⟨c, dead, dn, 0, 0, 0, 2 * c, [], false, false, false, []⟩
theorem abs_new (c : Int) (dead : List Nat) (dn : Int) : abs (newS c dead dn) = newA c dead dn := rfl
theorem remL_none {α : Type} {p : α → Bool} : ∀ {l : List α}, remL p l = none ↔ ∀ a ∈ l, p a = false
  | [] => by simp [remL]
  | a :: l => by
    have ih := remL_none (p := p) (l := l)
    unfold remL
    cases h : remL p l with
    | some q =>
      simp only [h] at ih
      constructor
      · intro z; cases z
      · intro z; exact absurd (ih.mpr fun b hb => z b (List.mem_cons_of_mem _ hb)) (by simp)
    | none =>
      have h' := ih.mp h
      cases hp : p a
      · simp [hp, h']; exact h'
      · simp [hp]
theorem remL_split {α : Type} {p : α → Bool} : ∀ {l : List α} {x : α} {r : List α}, remL p l = some (x, r) → ∃ u v, l = u ++ x :: v ∧ r = u ++ v ∧ p x = true ∧ ∀ b ∈ v, p b = false
  | [], x, r, h => by simp [remL] at h
  | a :: l, x, r, h => by
    unfold remL at h
    cases hl : remL p l with
    | some q =>
      obtain ⟨y, r'⟩ := q
      simp only [hl] at h
      cases h
      obtain ⟨u, v, e1, e2, e3, e4⟩ := remL_split hl
      exact ⟨a :: u, v, by rw [e1]; rfl, by rw [e2]; rfl, e3, e4⟩
    | none =>
      simp only [hl] at h
      cases hp : p a
      · simp [hp] at h
      · simp [hp] at h
        obtain ⟨rfl, rfl⟩ := h
        exact ⟨[], l, rfl, rfl, hp, remL_none.mp hl⟩
theorem remL_app {α : Type} {p : α → Bool} {u v : List α} {x : α} (hx : p x = true) (hv : ∀ b ∈ v, p b = false) : remL p (u ++ x :: v) = some (x, u ++ v) := by
  induction u with
  | nil =>
    have : remL p v = none := remL_none.mpr hv
    simp [remL, this, hx]
  | cons a u ih => simp [remL, ih]
theorem erase_last {ms : List Mk} {p : Sk → Bool} (hn : ms.Pairwise (fun a b => a.n < b.n)) : match (ms.filter fun k => p (skOf k)).getLast? with
    | none => remL p (ms.map skOf) = none
    | some k => remL p (ms.map skOf) = some (skOf k, (ms.erase k).map skOf) := by
  have h : ∀ ms : List Mk, (∀ k ∈ ms, p (skOf k) = false) ∨ ∃ u x v, ms = u ++ x :: v ∧ p (skOf x) = true ∧ ∀ b ∈ v, p (skOf b) = false := by
    intro ms
    induction ms with
    | nil => exact .inl (by simp)
    | cons a l ih =>
      rcases ih with ih | ⟨u, x, v, e, hx, hv⟩
      · cases hp : p (skOf a)
        · refine .inl fun k hk => ?_
          rcases List.mem_cons.mp hk with z | z
          · rw [z]; exact hp
          · exact ih k z
        · exact .inr ⟨[], a, l, rfl, hp, ih⟩
      · exact .inr ⟨a :: u, x, v, by rw [e]; rfl, hx, hv⟩
  rcases h ms with h | ⟨u, x, v, e, hx, hv⟩
  · have e : ms.filter (fun k => p (skOf k)) = [] := List.filter_eq_nil_iff.mpr fun k hk => by simp [h k hk]
    rw [e]
    exact remL_none.mpr fun a ha => by obtain ⟨k, hk, rfl⟩ := List.mem_map.mp ha; exact h k hk
  · subst e
    have ev : v.filter (fun k => p (skOf k)) = [] := List.filter_eq_nil_iff.mpr fun k hk => by simp [hv k hk]
    have e1 : ((u ++ x :: v).filter fun k => p (skOf k)).getLast? = some x := by
      rw [List.filter_append, List.filter_cons, if_pos hx, ev]; simp
    rw [e1]
    have hxu : x ∉ u := fun hm => by
      have := (List.pairwise_append.mp hn).2.2 x hm x (by simp)
      omega
    have e2 : (u ++ x :: v).erase x = u ++ v := by
      rw [List.erase_append_right _ hxu, List.erase_cons_head]
    show remL p ((u ++ x :: v).map skOf) = some (skOf x, ((u ++ x :: v).erase x).map skOf)
    rw [e2, List.map_append, List.map_cons, List.map_append]
    exact remL_app hx fun b hb => by obtain ⟨k, hk, rfl⟩ := List.mem_map.mp hb; exact hv k hk
theorem abs_ink {s : LW} (h : s.ok) (st : Bool) (c : Nat) : abs (inkL s st c).1 = (inkA (abs s) st c).1 ∧ (inkL s st c).2 = (inkA (abs s) st c).2 := by
  have e0 : shutA (abs s) ((abs s).place + 2) = shutL s (s.place + 2) := rfl
  have eM : (inkM s st c).1.map skOf = (inkMA (abs s) st c).1 ∧ (inkM s st c).2 = (inkMA (abs s) st c).2 := by
    cases st with
    | true =>
      refine ⟨?_, rfl⟩
      simp only [inkM, inkMA, if_true, List.map_append]
      rfl
    | false =>
      have e := erase_last (p := likeA (abs s) c) h.mn
      have el : likes s c = s.marks.filter fun k => likeA (abs s) c (skOf k) := rfl
      simp only [inkM, inkMA, el, Bool.false_eq_true, if_false]
      cases hg : (s.marks.filter fun k => likeA (abs s) c (skOf k)).getLast? with
      | none =>
        rw [hg] at e
        have e' : remL (likeA (abs s) c) (abs s).marks = none := e
        rw [e']; exact ⟨rfl, rfl⟩
      | some k =>
        rw [hg] at e
        have e' : remL (likeA (abs s) c) (abs s).marks = some (skOf k, (s.marks.erase k).map skOf) := e
        rw [e']; exact ⟨rfl, rfl⟩
  unfold inkL inkA
  rw [e0]
  by_cases hs : shutL s (s.place + 2) = true
  · rw [if_pos hs, if_pos hs]; exact ⟨rfl, rfl⟩
  · rw [if_neg hs, if_neg hs]
    refine ⟨?_, eM.2⟩
    by_cases hd : c ∈ s.dead
    · simp only [if_pos hd, if_pos (show c ∈ (abs s).dead from hd)]
      show AW.mk _ _ _ _ _ _ _ _ _ _ _ _ = AW.mk _ _ _ _ _ _ _ _ _ _ _ _
      rw [← eM.1]; rfl
    · simp only [if_neg hd, if_neg (show c ∉ (abs s).dead from hd)]
      show AW.mk _ _ _ _ _ _ _ _ _ _ _ _ = AW.mk _ _ _ _ _ _ _ _ _ _ _ _
      rw [← eM.1]; rfl
theorem abs_press {s : LW} (h : s.ok) (k : Ky) : abs (pressL s k).1 = (actA (abs s) k).1 ∧ (pressL s k).2 = (actA (abs s) k).2 := by
  have many : ∀ t : LW, abs { t with many := t.many + 1 } = abs t := fun _ => rfl
  show abs { (actL s k).1 with many := (actL s k).1.many + 1 } = _ ∧ (actL s k).2 = _
  rw [many]
  have on : ∀ q, abs (onL s q).1 = (onA (abs s) q).1 ∧ (onL s q).2 = (onA (abs s) q).2 := fun q => by
    unfold onL onA
    rw [show shutA (abs s) q = shutL s q from rfl]
    by_cases hs : shutL s q = true
    · rw [if_pos hs, if_pos hs]; exact ⟨rfl, rfl⟩
    · rw [if_neg hs, if_neg hs]; exact ⟨rfl, rfl⟩
  have row : ∀ q b, abs (rowL s q b).1 = (rowA (abs s) q b).1 ∧ (rowL s q b).2 = (rowA (abs s) q b).2 := fun q b => by
    unfold rowL rowA
    by_cases hs : q < 0 ∨ 60 < q
    · rw [if_pos hs, if_pos hs]; exact ⟨rfl, rfl⟩
    · rw [if_neg hs, if_neg hs]; cases b <;> exact ⟨rfl, rfl⟩
  cases k with
  | sign c => exact abs_ink h true c
  | lift c => exact abs_ink h false c
  | blank => exact on _
  | half => exact on _
  | tab => exact on _
  | ret => exact row _ _
  | up => exact row _ _
  | down => exact row _ _
  | back =>
    by_cases hs : s.place < 2 ∨ (s.free = false ∧ s.low ≤ s.place ∧ s.place - 2 < s.low)
    · have e1 : actL s .back = (s, lockD) := if_pos hs
      have e2 : actA (abs s) .back = (abs s, lockD) := if_pos hs
      rw [e1, e2]; exact ⟨rfl, rfl⟩
    · have e1 : actL s .back = ({ s with place := s.place - 2 }, movedD s.row (s.place - 2)) := if_neg hs
      have e2 : actA (abs s) .back = ({ abs s with place := s.place - 2 }, movedD s.row (s.place - 2)) := if_neg hs
      rw [e1, e2]; exact ⟨rfl, rfl⟩
  | left =>
    by_cases hs : s.place < s.high
    · have e1 : actL s .left = ({ s with low := s.place }, doneD) := if_pos hs
      have e2 : actA (abs s) .left = ({ abs s with low := s.place }, doneD) := if_pos hs
      rw [e1, e2]; exact ⟨rfl, rfl⟩
    · have e1 : actL s .left = (s, lockD) := if_neg hs
      have e2 : actA (abs s) .left = (abs s, lockD) := if_neg hs
      rw [e1, e2]; exact ⟨rfl, rfl⟩
  | right =>
    by_cases hs : s.low < s.place
    · have e1 : actL s .right = ({ s with high := s.place }, doneD) := if_pos hs
      have e2 : actA (abs s) .right = ({ abs s with high := s.place }, doneD) := if_pos hs
      rw [e1, e2]; exact ⟨rfl, rfl⟩
    · have e1 : actL s .right = (s, lockD) := if_neg hs
      have e2 : actA (abs s) .right = (abs s, lockD) := if_neg hs
      rw [e1, e2]; exact ⟨rfl, rfl⟩
  | clear =>
    by_cases hs : s.place ∈ s.tabs
    · have e1 : actL s .clear = ({ s with tabs := s.tabs.filter (fun t => decide (t ≠ s.place)) }, doneD) := if_pos hs
      have e2 : actA (abs s) .clear = ({ abs s with tabs := s.tabs.filter (fun t => decide (t ≠ s.place)) }, doneD) := if_pos hs
      rw [e1, e2]; exact ⟨rfl, rfl⟩
    · have e1 : actL s .clear = (s, lockD) := if_neg hs
      have e2 : actA (abs s) .clear = (abs s, lockD) := if_neg hs
      rw [e1, e2]; exact ⟨rfl, rfl⟩
  | set => exact ⟨rfl, rfl⟩
  | all => exact ⟨rfl, rfl⟩
  | free => exact ⟨rfl, rfl⟩
  | ribbon => exact ⟨rfl, rfl⟩
  | caps => exact ⟨rfl, rfl⟩
theorem abs_run : ∀ (ks : List Ky) {s : LW}, s.ok → abs (runL s ks).1 = (runA (abs s) ks).1 ∧ (runL s ks).2 = (runA (abs s) ks).2
  | [], _, _ => ⟨rfl, rfl⟩
  | k :: ks, s, h => by
    obtain ⟨e1, e2⟩ := abs_press h k
    obtain ⟨i1, i2⟩ := abs_run ks (ok_press (k := k) h)
    rw [e1] at i1 i2
    exact ⟨i1, by show _ :: _ = _ :: _; rw [e2, i2]⟩
theorem runA_app : ∀ (a b : List Ky) (s : AW), runA s (a ++ b) = ((runA (runA s a).1 b).1, (runA s a).2 ++ (runA (runA s a).1 b).2) := by
  intro a
  induction a with
  | nil => intro b s; simp [runA]
  | cons k a ih => intro b s; simp [runA, ih]
def aft (c : Int) (dead : List Nat) (dn : Int) (ks : List Ky) : AW := (runA (newA c dead dn) ks).1
def standA (s : AW) : D := .tup [.int s.row, .int s.place, .int s.low, .int s.high, .tup ((tabsS s.tabs).map .int), colD s.red, .bl s.caps, .bl s.free]
section
variable {c : Int} {dead : List Nat} {dn : Int} (hM : MOk c dead dn) (ks : List Ky)
include hM
theorem aft_abs : abs (runL (newS c dead dn) ks).1 = aft c dead dn ks := (abs_run ks (new_ok hM)).1
theorem told_aft : (runL (newS c dead dn) ks).2 = (runA (newA c dead dn) ks).2 := (abs_run ks (new_ok hM)).2
theorem stand_aft : standD (runL (newS c dead dn) ks).1 = standA (aft c dead dn ks) := by rw [← aft_abs hM]; rfl
theorem sks_aft : sksS c dead dn ks = (aft c dead dn ks).marks := by rw [← aft_abs hM]; rfl
end
theorem aft_app (c : Int) (dead : List Nat) (dn : Int) (a b : List Ky) : aft c dead dn (a ++ b) = (runA (aft c dead dn a) b).1 := by unfold aft; rw [runA_app]
structure AW.ok (s : AW) : Prop where
  c0 : 8 ≤ s.c
  c1 : s.c ≤ 40
  d2 : 2 ≤ s.dn
  d4 : s.dn ≤ 4
  p0 : 0 ≤ s.place
  p1 : s.place ≤ 2 * s.c
  l0 : 0 ≤ s.low
  l1 : s.low ≤ 2 * s.c
  h0 : 0 ≤ s.high
  h1 : s.high ≤ 2 * s.c
  r0 : 0 ≤ s.row
  r1 : s.row ≤ 60
theorem aft_ok {c : Int} {dead : List Nat} {dn : Int} (hM : MOk c dead dn) (ks : List Ky) : (aft c dead dn ks).ok := by
  rw [← aft_abs hM]
  have h : (runL (newS c dead dn) ks).1.ok := ok_run (new_ok hM)
  exact ⟨h.c0, h.c1, h.d2, h.d4, h.p0, h.p1, h.l0, h.l1, h.h0, h.h1, h.r0, h.r1⟩
theorem aft_const {c : Int} {dead : List Nat} {dn : Int} (hM : MOk c dead dn) (ks : List Ky) : (aft c dead dn ks).c = c ∧ (aft c dead dn ks).dead = dead ∧ (aft c dead dn ks).dn = dn := by
  rw [← aft_abs hM]
  exact run_const ks (newS c dead dn)
theorem eq_of {d e : D} {m : Store} {R : KD} (h : d = e) (hd : dOk d 60 = true) (hR : R (.bl true) m) : wEq d e m R := by
  subst h
  have e : rv m d = d := by cases d <;> first | rfl | simp [dOk] at hd
  cases d with
  | str s => simpa [wEq] using hR
  | int i => simpa [wEq] using hR
  | _ => exact ⟨by rw [e]; exact hd, by rw [e]; exact hd, by rw [e, eqD_refl _ _ hd]; exact hR⟩
theorem ne_of {d e : D} {m : Store} {R : KD} (h : d = e) (hd : dOk d 60 = true) (hR : R (.bl false) m) : wNe d e m R := eq_of h hd hR
theorem wAddI (b : Bool) (i j : Int) (m : Store) (R : KD) : wAdd b (.int i) (.int j) m R = R (.int (i + j)) m := rfl
theorem add_keys {a : List Ky} (b : List Ky) {m : Store} {R : KD} (hl : a.length + b.length ≤ 16000000) (h : R (.tup ((a ++ b).map kyD)) m) : wAdd false (.tup (a.map kyD)) (.tup (b.map kyD)) m R := by
  refine ⟨?_, by rw [List.map_append] at h; exact h⟩
  rw [List.length_map, List.length_map, LIMv]; omega
end DL
end
section
set_option maxHeartbeats 0
namespace DL
open PySem PySem.Spec PyProof.Rows L2
section
variable {X : Cx} {W : WX} {a b c : Expr} {pos : Pos}
def wPar3 (i j l : Nat) (a : WA) : WS := fun r m k => a r m (fun us m1 => match us with | [u, v, w] => k.nx (put (put (put r i (some u)) j (some v)) l (some w)) m1 | _ => False) k.ex
theorem psd_par3 {ga : WA} {i j l : Nat} {x y z : Str} {px py pz pt : Pos} {kt k2 pt2} (hc : X.calm = true) (hN : X.N.Nodup) (hi : X.N[i]? = some x) (hj : X.N[j]? = some y) (hl : X.N[l]? = some z) (hij : i ≠ j) (hil : i ≠ l) (hjl : j ≠ l)
    (hx : X.env.scope.names.lookup x = some .local) (hy : X.env.scope.names.lookup y = some .local) (hz : X.env.scope.names.lookup z = some .local) (ha : PA X [a, b, c] (upA X.K W ga))
    (hw : swappedStores [.Tuple [.Name x px, .Name y py, .Name z pz] kt pt] (.Tuple [a, b, c] k2 pt2) X.env = pure (some [x, y, z]))
    (hs : swapsWithSole [.Tuple [.Name x px, .Name y py, .Name z pz] kt pt] (.Tuple [a, b, c] k2 pt2) pos.line X.env = pure false := by rfl) :
    PS X (.Assign [.Tuple [.Name x px, .Name y py, .Name z pz] kt pt] (.Tuple [a, b, c] k2 pt2) pos) (upS X.K W (wPar3 i j l ga)) := PS.imp (ps_par3 hc hN hi hj hl hij hil hjl hx hy hz ha hw hs) fun E σ H ⟨B, r, m, k, er, S, h, t⟩ => by
  refine ⟨B, r, m, _, _, er, S, h, fun B1 ds m1 vs H1 e1 S1 f1 p1 q1 => ?_, t.x er⟩
  cases p1 with
  | nil => exact q1.elim
  | cons h1 t1 => cases t1 with
    | nil => exact q1.elim
    | cons h2 t2 => cases t2 with
      | nil => exact q1.elim
      | cons h3 t3 => cases t3 with
        | cons _ _ => exact q1.elim
        | nil => exact ⟨_, _, _, rfl, t.nx B1 _ _ m1 H1 e1 S1 f1 ((((er.mono e1).set i h1).set j h2).set l h3) q1⟩
end
@[simp] theorem s_par3 (r : Env) (m : Store) (k : SK) (i j l : Nat) (a : WA) : wPar3 i j l a r m k = a r m (fun us m1 => match us with | [u, v, w] => k.nx (put (put (put r i (some u)) j (some v)) l (some w)) m1 | _ => False) k.ex := rfl
end DL
end
section
set_option maxHeartbeats 0
namespace DL
open PySem
def colB (d : D) : Bool := match d with
  | .str s => decide (s = PySem.Str.ofString "black") || decide (s = PySem.Str.ofString "red")
  | _ => false
def strikeB (c : Int) (d : D) : Bool := match d with
  | .tup [a, b, s, w] => wholeB a 0 60 && wholeB b 0 (2 * c - 2) && oneOfB s (G_SIGNS ++ G_GREAT) && colB w
  | _ => false
def sArg (m : Store) (d : D) : Prop := (tyN m d).isSome = true ∧ ∀ xs, d = .tup xs → ∀ w ∈ xs, (∀ m', (tyN m' w).isSome = true) ∧ ∀ t, w = .str t → t.length ≤ 1000
def ph_is_strike (A : Ad) : FW := fun ds m R _ => ∃ c dead dn d, ds = [machD c dead dn, d] ∧ MOk c dead dn ∧ sArg m d ∧ R (.bl (strikeB c d)) m
def backs (p g : Int) : Int := max 0 ((p - g + 1) / 2)
def ledD (p g : Int) : List D := List.replicate (backs p g).toNat (k1 "back") ++ onD (g - (p - 2 * backs p g))
def ph_led (A : Ad) : FW := fun ds m R _ => ∃ p g : Int, ds = [.int p, .int g] ∧ 0 ≤ p ∧ p ≤ 1000 ∧ 0 ≤ g ∧ g ≤ 1000 ∧ R (.lst (ledD p g)) m
def homeR (dn row : Int) : Int := if row + dn ≤ 60 then row + dn else row
def ph_home_row (A : Ad) : FW := fun ds m R _ => ∃ c dead dn row, ds = [machD c dead dn, .int row] ∧ R (.int (homeR dn row)) m
def homeK (dn row : Int) : List Ky := if 60 < row + dn then List.replicate dn.toNat .up ++ [.ret] else [.ret]
def ph_home (A : Ad) : FW := fun ds m R _ => ∃ c dead dn row, ds = [machD c dead dn, .int row] ∧ MOk c dead dn ∧ R (.lst ((homeK dn row).map kyD)) m
def Num (ms : List Mk) : Prop := ∀ (i : Nat) (k : Mk), ms[i]? = some k → k.n = (i : Int)
structure stOk (c : Int) (k : Mk) : Prop where
  r0 : 0 ≤ k.row
  r1 : k.row ≤ 60
  p0 : 0 ≤ k.place
  p1 : k.place ≤ 2 * c - 2
  sg : k.sign ∈ (G_SIGNS ++ G_GREAT).cps.toList
def strikesB (c : Int) (m : Store) (d : D) : Bool := match asL m d with
  | some xs => decide (xs.length ≤ 60) && xs.all (strikeB c)
  | none => false
def kArg (m : Store) (d : D) : Prop := (tyN m d).isSome = true ∧ ∀ xs, asL m d = some xs → xs.length ≤ 1000 ∧ ∀ w ∈ xs, ∀ m', sArg m' w
def stepD (dn : Int) (dead : List Nat) (row place : Int) (red : Bool) (k : Mk) : List D :=
  let b := decide (row < k.row) && decide (0 < place)
  let row1 := if b then homeR dn row else row
  let place1 := if b then 0 else place
  (if b then (homeK dn row).map kyD else []) ++ (List.replicate (k.row - row1).toNat (k1 "down") ++ List.replicate (row1 - k.row).toNat (k1 "up") ++ ledD place1 k.place) ++ (if k.red = red then [] else [k1 "ribbon"]) ++ keysOf [k.sign]
def forD (dn : Int) (dead : List Nat) : Int → Int → Bool → List Mk → List D
  | _, _, _, [] => []
  | row, place, red, k :: ks => stepD dn dead row place red k ++ forD dn dead k.row (if k.sign ∈ dead then k.place else k.place + 2) k.red ks
def ph_keys_for (A : Ad) : FW := fun ds m R x => ∃ (dm d : D), ds = [dm, d] ∧ inMach A m dm x fun c dead dn => kArg m d ∧ (strikesB c m d = false → x A.xNoStrikes m) ∧
  ∀ ms : List Mk, asL m d = some (ms.map mkB) → Num ms → (∀ k ∈ ms, stOk c k) → ms.length ≤ 60 → R (.tup (forD dn dead 0 0 false (sortM ms))) m
end DL
end
section
set_option maxHeartbeats 0
namespace DL
open PySem
def psi_is_strike_t2 (A : Ad) : WS := wRet (wAndV (wCallB wIsi (wCons (wOp wIx (wVar 1) (wC (.int 3))) (wCons (wC (.ty "str")) (wNil)))) (wOp wIn (wOp wIx (wVar 1) (wC (.int 3))) (wC (.tup G_COLOURS))))
def psi_is_strike_t1 (A : Ad) : WS := wSeq (wIfS (wOr (wNot (wTest (wCall 3 (ph_is_whole A) (wCons (wOp wIx (wVar 1) (wC (.int 1))) (wCons (wC (.int 0)) (wCons (wOp wSub (wCall 1 (ph_end_of A) (wCons (wVar 0) (wNil))) (wC (.int 2))) (wNil))))))) (wNot (wTest (wCall 2 (ph_is_one_of A) (wCons (wOp wIx (wVar 1) (wC (.int 2))) (wCons (wOp (wAdd false) (wC (.str G_SIGNS)) (wC (.str G_GREAT))) (wNil))))))) (wRet (wC (.bl false))) (wNext)) (psi_is_strike_t2 A)
def psi_is_strike (A : Ad) : WS := wSeq (wIfS (wOr (wNot (wTest (wCallB wIsi (wCons (wVar 1) (wCons (wC (.ty "tuple")) (wNil)))))) (wOr (wTest (wOp wNe (wCallB wLen (wCons (wVar 1) (wNil))) (wC (.int 4)))) (wNot (wTest (wCall 3 (ph_is_whole A) (wCons (wOp wIx (wVar 1) (wC (.int 0))) (wCons (wC (.int 0)) (wCons (wC (.int 60)) (wNil))))))))) (wRet (wC (.bl false))) (wNext)) (psi_is_strike_t1 A)
def psi_led (A : Ad) : WS := wSeq (wSet 2 (wOp (wMul true) (wLst false (wCons (wTup (wCons (wC (.str (PySem.Str.ofString "back"))) (wNil))) (wNil))) (wCallB wMax2 (wCons (wC (.int 0)) (wCons (wOp wDiv (wOp (wAdd false) (wOp wSub (wVar 0) (wVar 1)) (wC (.int 1))) (wC (.int 2))) (wNil)))))) (wSeq (wSet 0 (wOp wSub (wVar 0) (wOp (wMul false) (wC (.int 2)) (wCallB wLen (wCons (wVar 2) (wNil)))))) (wSeq (wExp (wMt "list" wExtend (wVar 2) (wCons (wOp (wAdd false) (wOp (wMul false) (wLst false (wCons (wTup (wCons (wC (.str (PySem.Str.ofString "blank"))) (wNil))) (wNil))) (wOp wDiv (wOp wSub (wVar 1) (wVar 0)) (wC (.int 2)))) (wOp (wMul false) (wLst false (wCons (wTup (wCons (wC (.str (PySem.Str.ofString "half"))) (wNil))) (wNil))) (wOp wMod (wOp wSub (wVar 1) (wVar 0)) (wC (.int 2))))) (wNil)))) (wRet (wFrz (wVar 2)))))
def psi_home_row (A : Ad) : WS := wRet (wIf (wTest (wOp wLe (wOp (wAdd false) (wVar 1) (wOp wIx (wVar 0) (wC (.int 2)))) (wC (.int 60)))) (wOp (wAdd false) (wVar 1) (wOp wIx (wVar 0) (wC (.int 2)))) (wVar 1))
def psi_home (A : Ad) : WS := wSeq (wIfS (wTest (wOp wGt (wOp (wAdd false) (wVar 1) (wOp wIx (wVar 0) (wC (.int 2)))) (wC (.int 60)))) (wRet (wOp (wAdd false) (wOp (wMul false) (wLst false (wCons (wTup (wCons (wC (.str (PySem.Str.ofString "up"))) (wNil))) (wNil))) (wOp wIx (wVar 0) (wC (.int 2)))) (wLst false (wCons (wTup (wCons (wC (.str (PySem.Str.ofString "return"))) (wNil))) (wNil))))) (wNext)) (wRet (wLst false (wCons (wTup (wCons (wC (.str (PySem.Str.ofString "return"))) (wNil))) (wNil))))
def psi_keys_for_t5 (A : Ad) : WS := wRet (wFgt (wCallB wTuple (wCons (wVar 2) (wNil))))
def psi_keys_for_t4 (A : Ad) : WS := wSeq (wFor (iSeq (wCallB (wSortD false) (wCons (wLc false [8, 11] (iEnumL (wVar 1)) (gTp [8, 11]) (wYes) (wTup (wCons (wOp wIx (wVar 11) (wC (.int 0))) (wCons (wOp wIx (wVar 11) (wC (.int 1))) (wCons (wVar 8) (wNil)))))) (wNil)))) (gTp [6, 7, 8]) (wSeq (wAsg (wSl (wCut false) (wOp wIx (wVar 1) (wVar 8)) (oSome (wC (.int 2))) (oNone)) (gTp [9, 10])) (wSeq (wIfS (wAnd (wTest (wOp wGt (wVar 6) (wVar 3))) (wTest (wOp wGt (wVar 4) (wC (.int 0))))) (wSeq (wExp (wMt "list" wExtend (wVar 2) (wCons (wCall 2 (ph_home A) (wCons (wVar 0) (wCons (wVar 3) (wNil)))) (wNil)))) (wPar 3 4 (wCons (wCall 2 (ph_home_row A) (wCons (wVar 0) (wCons (wVar 3) (wNil)))) (wCons (wC (.int 0)) (wNil))))) (wNext)) (wSeq (wExp (wMt "list" wExtend (wVar 2) (wCons (wOp (wAdd false) (wOp (wAdd false) (wOp (wMul false) (wLst false (wCons (wTup (wCons (wC (.str (PySem.Str.ofString "down"))) (wNil))) (wNil))) (wOp wSub (wVar 6) (wVar 3))) (wOp (wMul false) (wLst false (wCons (wTup (wCons (wC (.str (PySem.Str.ofString "up"))) (wNil))) (wNil))) (wOp wSub (wVar 3) (wVar 6)))) (wCall 2 (ph_led A) (wCons (wVar 4) (wCons (wVar 7) (wNil))))) (wNil)))) (wSeq (wIfS (wTest (wOp wNe (wVar 10) (wVar 5))) (wExp (wMt "list" wAppend (wVar 2) (wCons (wTup (wCons (wC (.str (PySem.Str.ofString "ribbon"))) (wNil))) (wNil)))) (wNext)) (wSeq (wExp (wMt "list" wExtend (wVar 2) (wCons (wFrz (wCall 1 (ph_keys_of A) (wCons (wVar 9) (wNil)))) (wNil)))) (wPar3 3 4 5 (wCons (wVar 6) (wCons (wIf (wTest (wOp wIn (wVar 9) (wOp wIx (wVar 0) (wC (.int 1))))) (wVar 7) (wOp (wAdd false) (wVar 7) (wC (.int 2)))) (wCons (wVar 10) (wNil))))))))))) (psi_keys_for_t5 A)
def psi_keys_for_t3 (A : Ad) : WS := wSeq (wAsg (wTup (wCons (wC (.int 0)) (wCons (wC (.int 0)) (wCons (wC (.str (PySem.Str.ofString "black"))) (wNil))))) (gTp [3, 4, 5])) (psi_keys_for_t4 A)
def psi_keys_for_t2 (A : Ad) : WS := wSeq (wSet 2 (wLst true (wNil))) (psi_keys_for_t3 A)
def psi_keys_for_t1 (A : Ad) : WS := wSeq (wIfS (wOr (wNot (wTest (wCallB wIsi (wCons (wVar 1) (wCons (wC (.ty "list")) (wNil)))))) (wOr (wTest (wOp wGt (wCallB wLen (wCons (wVar 1) (wNil))) (wC (.int 60)))) (wNot (wTest (wCallB wAll (wCons (wLc false [11] (iSeq (wVar 1)) (gNm 11) (wYes) (wCall 2 (ph_is_strike A) (wCons (wVar 0) (wCons (wVar 11) (wNil))))) (wNil))))))) (wRaise A.xNoStrikes) (wNext)) (psi_keys_for_t2 A)
def psi_keys_for (A : Ad) : WS := wSeq (wExp (wCall 1 (ph_need_machine A) (wCons (wVar 0) (wNil)))) (psi_keys_for_t1 A)
end DL
end
section
set_option maxHeartbeats 0
namespace DL
open PySem
theorem backs_nn (p g : Int) : 0 ≤ backs p g := by unfold backs; omega
theorem backs_le {p g : Int} (h0 : 0 ≤ p) (hg : 0 ≤ g) : 2 * backs p g ≤ p + 1 ∧ g - (p - 2 * backs p g) ≥ 0 := by unfold backs; omega
theorem in_dead2 {A : Ad} (hA : AdOk A) {dead : List Nat} {k : Nat} {m : Store} {R : KD} (h : R (.bl (decide (k ∈ dead))) m) : wIn (ch k) (.tup (dead.map ch)) m R := by
  have e : inD (ch k) (dead.map ch) = decide (k ∈ dead) := by
    simp only [inD, List.any_map]
    rw [Bool.eq_iff_iff]
    simp [eqD, Function.comp]
  refine ⟨rfl, by simp [flatD], ?_⟩
  rw [e]
  exact h
def keepG (d : D) (xs : List D) : Store → Prop := match d with
  | .ref a => fun m' => m' a = some (.lst xs)
  | _ => fun _ => True
theorem keep_ok {d : D} {xs : List D} {m : Store} (h : asL m d = some xs) : keepG d xs m := by
  cases d with
  | ref a =>
    simp [asL] at h
    show m a = some (.lst xs)
    cases e : m a with
    | none => simp [e] at h
    | some o => cases o <;> simp [e] at h; rw [h]
  | _ => trivial
theorem seq_asI {d : D} {xs : List D} {m : Store} (h : asL m d = some xs) (K : List D → (Store → Prop) → Prop) (hK : K xs (keepG d xs)) : asI m d K := by
  cases d with
  | ref a =>
    have : m a = some (.lst xs) := keep_ok h
    simp only [asI, this]; exact hK
  | lst ys => simp [asL] at h; subst h; exact hK
  | _ => simp [asL] at h
theorem seq_len {d : D} {xs : List D} {m : Store} (h : asL m d = some xs) (K : KD) : wLen [d] m K = K (.int (xs.length : Nat)) m := by
  cases d with
  | ref a => simp [wLen, asQ, h]
  | lst ys => simp [wLen, asQ, h]
  | _ => simp [asL] at h
theorem seq_ix {d : D} {xs : List D} {m : Store} (h : asL m d = some xs) {i : Nat} {v : D} (hv : xs[i]? = some v) (K : KD) : wIx d (.int (i : Nat)) m K = K v m := by
  have hi : i < xs.length := by
    rcases Nat.lt_or_ge i xs.length with z | z
    · exact z
    · rw [List.getElem?_eq_none z] at hv; cases hv
  have e : atL xs ((i : Nat) : Int) = some v := by
    unfold atL; rw [ixA, if_pos hi]; exact hv
  cases d with
  | ref a => simp only [wIx, asQ, h, ok_some, e]
  | lst ys => simp only [wIx, asQ, h, ok_some, e]
  | _ => simp [asL] at h
theorem seq_enum {d : D} {xs : List D} {m : Store} (h : asL m d = some xs) {w : WE} {r : Env} {x : XD} (hw : ∀ K : KD, w r m K x = K d m) (K : List D → (Store → Prop) → Store → Prop) (hK : K (enumD 0 xs) (keepG d xs) m) : iEnumL w r m K x := by
  simp only [iEnumL, hw]
  cases d with
  | ref a =>
    simp only [h, ok_some]; exact hK
  | lst ys => simp [asL] at h; subst h; exact hK
  | _ => simp [asL] at h
def trip (k : Mk) : D := .tup [.int k.row, .int k.place, .int k.n]
theorem lc_trip {G : Store → Prop} {m : Store} {v0 v1 v2 v3 v4 v5 v6 v7 v8 v9 v10 v11 : Option D} (hG : G m) : ∀ (ms : List Mk) (n : Nat) (acc : List D) (K : List D → Store → Prop), (∀ (i : Nat) (k : Mk), ms[i]? = some k → k.n = ((n + i : Nat) : Int)) → acc.length + ms.length ≤ LIM → K (acc ++ ms.map trip) m →
    wLcL G [8, 11] (gTp [8, 11]) (wYes) (wTup (wCons (wOp wIx (wVar 11) (wC (.int 0))) (wCons (wOp wIx (wVar 11) (wC (.int 1))) (wCons (wVar 8) (wNil))))) [v0, v1, v2, v3, v4, v5, v6, v7, v8, v9, v10, v11] (enumD n (ms.map mkB)) acc m K
  | [], n, acc, K, _, _, h => ⟨hG, by simpa using h⟩
  | k :: ms, n, acc, K, hn, hl, h => by
    simp only [List.length_cons] at hl
    simp only [List.map_cons, enumD]
    refine ⟨hG, ?_⟩
    have i0 : ∀ (m : Store) (K : KD), wIx (mkB k) (.int 0) m K = K (.int k.row) m := fun _ _ => rfl
    have i1 : ∀ (m : Store) (K : KD), wIx (mkB k) (.int 1) m K = K (.int k.place) m := fun _ _ => rfl
    simp only [e_yes, if_true, i0, i1, s_seq, s_if, s_set, s_ret, s_retN, s_next, s_exp, s_asg, s_for, s_par, s_raise, e_test, e_not, e_and, e_or, e_andV, e_orV, e_notV, e_op, e_un, e_if, e_call, e_callB, e_cons, e_nil, e_tup, e_lst, e_nwF, e_c, e_var, e_sl, e_oSome, e_oNone, e_chain, e_lc, e_seqI, e_mt, e_frz, e_fgt, g_nm, g_tp, putAllS, putAll0, wipeS, wipe0, getS, get0, putS, put0, ok_some]
    have e : (.int (n : Int) : D) = .int k.n := by have := hn 0 k rfl; rw [this]; rfl
    refine ⟨rfl, by show 3 ≤ LIM; decide, by omega, ?_⟩
    rw [e]
    refine lc_trip hG ms (n + 1) _ K (fun i j hij => ?_) (by simp; omega) (by simpa [trip] using h)
    have := hn (i + 1) j (by simpa using hij)
    rw [this]; omega
theorem step_len {c dn row place : Int} {dead : List Nat} {red : Bool} {k : Mk} (hM : MOk c dead dn) (hk : stOk c k) (r0 : 0 ≤ row) (r1 : row ≤ 60) (p0 : 0 ≤ place) (p1 : place ≤ 2 * c) : (stepD dn dead row place red k).length ≤ 480 := by
  have hc := hM.hi
  have d2 := hM.d2
  have d4 := hM.d4
  obtain ⟨kr0, kr1, kp0, kp1, ksg⟩ := hk
  have hhl : ((homeK dn row).map kyD).length ≤ 10 := by
    unfold homeK; split <;> simp; omega
  have ll : ∀ q : Int, 0 ≤ q → q ≤ 2 * c → (ledD q k.place).length ≤ 300 := by
    intro q q0 q1
    have b0 := backs_nn q k.place
    obtain ⟨b1, b2⟩ := backs_le q0 kp0
    simp only [ledD, onD, List.length_append, List.length_replicate]; omega
  have kl := keysOf_len [k.sign]
  simp only [List.length_cons, List.length_nil] at kl
  have hr : (if k.red = red then [] else [k1 "ribbon"] : List D).length ≤ 1 := by split <;> simp
  have hh : homeR dn row ≤ 60 ∧ 0 ≤ homeR dn row := by unfold homeR; split <;> omega
  unfold stepD
  simp only
  split
  · have := ll 0 (by omega) (by omega)
    simp only [List.length_append, List.length_replicate]
    omega
  · have := ll place p0 p1
    simp only [List.length_append, List.length_replicate, List.length_nil]
    omega
def psQ3 (A : Ad) : WS := (wSeq (wExp (wMt "list" wExtend (wVar 2) (wCons (wFrz (wCall 1 (ph_keys_of A) (wCons (wVar 9) (wNil)))) (wNil)))) (wPar3 3 4 5 (wCons (wVar 6) (wCons (wIf (wTest (wOp wIn (wVar 9) (wOp wIx (wVar 0) (wC (.int 1))))) (wVar 7) (wOp (wAdd false) (wVar 7) (wC (.int 2)))) (wCons (wVar 10) (wNil))))))
def psQ2 (A : Ad) : WS := (wSeq (wExp (wMt "list" wExtend (wVar 2) (wCons (wOp (wAdd false) (wOp (wAdd false) (wOp (wMul false) (wLst false (wCons (wTup (wCons (wC (.str (PySem.Str.ofString "down"))) (wNil))) (wNil))) (wOp wSub (wVar 6) (wVar 3))) (wOp (wMul false) (wLst false (wCons (wTup (wCons (wC (.str (PySem.Str.ofString "up"))) (wNil))) (wNil))) (wOp wSub (wVar 3) (wVar 6)))) (wCall 2 (ph_led A) (wCons (wVar 4) (wCons (wVar 7) (wNil))))) (wNil)))) (wSeq (wIfS (wTest (wOp wNe (wVar 10) (wVar 5))) (wExp (wMt "list" wAppend (wVar 2) (wCons (wTup (wCons (wC (.str (PySem.Str.ofString "ribbon"))) (wNil))) (wNil)))) (wNext)) (psQ3 A)))
variable {A : Ad} (hA : AdOk A)
include hA
theorem dt_home_row : ∀ ds m R x, ph_home_row A ds m R x → psi_home_row A (startD 2 ds) m (endD R x) := by
  rintro ds m R x ⟨c, dead, dn, row, rfl, h⟩
  have i2 : ∀ (m : Store) (K : KD), wIx (machD c dead dn) (.int 2) m K = K (.int dn) m := fun _ _ => rfl
  simp [psi_home_row, i2, wAdd, wLe]
  unfold homeR at h
  by_cases e : row + dn ≤ 60
  · simp [e] at h ⊢; exact h
  · simp [e] at h ⊢; exact h
theorem dt_home : ∀ ds m R x, ph_home A ds m R x → psi_home A (startD 2 ds) m (endD R x) := by
  rintro ds m R x ⟨c, dead, dn, row, rfl, hM, h⟩
  have L : LIM = 16777216 := rfl
  have d2 := hM.d2
  have d4 := hM.d4
  have i2 : ∀ (m : Store) (K : KD), wIx (machD c dead dn) (.int 2) m K = K (.int dn) m := fun _ _ => rfl
  simp [psi_home, i2, wAddI, wGt]
  unfold homeK at h
  by_cases e : 60 < row + dn
  · simp [e] at h ⊢
    simp [wMul, asL, repD_one, wAdd]
    exact ⟨by omega, by omega, by omega, by omega, by omega, by omega, h⟩
  · simp [e] at h ⊢
    exact ⟨by omega, h⟩
theorem dt_led : ∀ ds m R x, ph_led A ds m R x → psi_led A (startD 3 ds) m (endD R x) := by
  rintro ds m R x ⟨p, g, rfl, h0, h1, h2, h3, h⟩
  have L : LIM = 16777216 := rfl
  have b0 := backs_nn p g
  obtain ⟨b1, b2⟩ := backs_le h0 h2
  have eb : (if (p - g + 1) / 2 > 0 then (p - g + 1) / 2 else 0) = backs p g := by unfold backs; split <;> omega
  have eb2 : (if 0 < (p - g + 1) / 2 then (p - g + 1) / 2 else 0) = backs p g := by unfold backs; split <;> omega
  simp [psi_led, wSub, wAddI, wDiv, wMax2, eb, eb2]
  refine ⟨by decide, ?_⟩
  simp only [wMul, asL]
  refine ⟨_, rfl, by omega, by omega, by simp; omega, ?_⟩
  simp [repD_one]
  intro a na
  simp [wLen, asQ, asL, sup_same, wMul, wSub, wDiv, wMod, tyM, repD_one]
  have em : max (backs p g) 0 = backs p g := by omega
  rw [em]
  refine ⟨by omega, by omega, by omega, by omega, by omega, by omega, by omega, by omega, ?_⟩
  refine ⟨_, _, rfl, rfl, by simp; omega, ?_⟩
  simp [wExtend, sup_same, asL, sup_sup, sdel_sup na]
  exact ⟨by omega, h⟩
theorem dt_is_strike : ∀ ds m R x, ph_is_strike A ds m R x → psi_is_strike A (startD 2 ds) m (endD R x) := by
  rintro ds m R x ⟨c, dead, dn, d, rfl, hM, ⟨ht, hs⟩, h⟩
  have L : LIM = 16777216 := rfl
  obtain ⟨n, hn⟩ := Option.isSome_iff_exists.mp ht
  simp [psi_is_strike, wIsi]
  refine ok_iff.mpr ⟨n, hn, ?_⟩
  by_cases hd : ∃ xs, d = .tup xs
  · obtain ⟨xs, rfl⟩ := hd
    simp [tyN] at hn
    subst hn
    have hs := hs xs rfl
    have et : isiN "tuple" "tuple" = true := rfl
    simp [et, wLen, asQ, wNeI]
    by_cases hl : xs.length = 4
    · obtain ⟨a, b, s, w, rfl⟩ : ∃ a b s w, xs = [a, b, s, w] := by
        match xs, hl with
        | [a, b, s, w], _ => exact ⟨a, b, s, w, rfl⟩
      have i0 : ∀ (m : Store) (K : KD), wIx (.tup [a, b, s, w]) (.int 0) m K = K a m := fun _ _ => rfl
      have i1 : ∀ (m : Store) (K : KD), wIx (.tup [a, b, s, w]) (.int 1) m K = K b m := fun _ _ => rfl
      have i2 : ∀ (m : Store) (K : KD), wIx (.tup [a, b, s, w]) (.int 2) m K = K s m := fun _ _ => rfl
      have i3 : ∀ (m : Store) (K : KD), wIx (.tup [a, b, s, w]) (.int 3) m K = K w m := fun _ _ => rfl
      simp [i0]
      refine ⟨_, _, _, rfl, (hs a (by simp)).1 m, ?_⟩
      simp only [strikeB] at h
      cases h1 : wholeB a 0 60 with
      | false => rw [h1] at h; simpa using h
      | true =>
        rw [h1] at h
        simp [psi_is_strike_t1, i1]
        refine ⟨_, _, _, rfl, hM, ?_⟩
        simp [wSub]
        refine ⟨_, _, _, rfl, (hs b (by simp)).1 m, ?_⟩
        cases h2 : wholeB b 0 (2 * c - 2) with
        | false => rw [h2] at h; simpa using h
        | true =>
          rw [h2] at h
          have hz : G_SIGNS.length + G_GREAT.length ≤ LIM := by decide +kernel
          simp [i2, wAdd, hz]
          refine ⟨_, _, rfl, (hs s (by simp)).1 m, fun t e => by have := (hs s (by simp)).2 t e; omega, ?_⟩
          cases h3 : oneOfB s (G_SIGNS ++ G_GREAT) with
          | false => rw [h3] at h; simpa using h
          | true =>
            rw [h3] at h
            simp [psi_is_strike_t2, i3, wIsi]
            obtain ⟨nw, hnw⟩ := Option.isSome_iff_exists.mp ((hs w (by simp)).1 m)
            refine ok_iff.mpr ⟨nw, hnw, ?_⟩
            simp only [Bool.true_and] at h
            cases w with
            | str t =>
              simp [tyN] at hnw
              subst hnw
              have es : isiN "str" "str" = true := rfl
              simp only [es]
              refine ⟨rfl, by simp [G_COLOURS, wordD, flatD], ?_⟩
              have e : inD (.str t) G_COLOURS = colB (.str t) := by
                simp [inD, G_COLOURS, wordD, eqD, colB]
                congr 1 <;> exact decide_eq_decide.mpr eq_comm
              rw [e]; exact h
            | ref a =>
              simp [tyN] at hnw
              simp only [colB] at h
              cases e : m a with
              | none => simp [e] at hnw
              | some o => cases o <;> simp [e] at hnw <;> subst hnw <;> simpa [isiN] using h
            | _ => simp [tyN] at hnw <;> subst hnw <;> simpa [isiN, colB] using h
    · have hl' : ¬ ((xs.length : Int) = 4) := by omega
      simp [hl']
      have e : strikeB c (.tup xs) = false := by
        unfold strikeB
        split
        · rename_i heq; cases heq; simp at hl
        · rfl
      rw [e] at h
      exact h
  · have e : strikeB c d = false := by
      unfold strikeB
      split
      · exact absurd ⟨_, rfl⟩ hd
      · rfl
    have e2 : isiN n "tuple" = false := by
      have : n ≠ "tuple" := by
        rintro rfl
        cases d with
        | tup xs => exact hd ⟨_, rfl⟩
        | ref a =>
          simp [tyN] at hn
          cases e : m a with
          | none => simp [e] at hn
          | some o => cases o <;> simp [e] at hn
        | _ => simp [tyN] at hn
      simp [isiN, this]
    simp [e2]
    rw [e] at h
    simpa using h
theorem kf_body {c dn : Int} {dead : List Nat} (hM : MOk c dead dn) {d : D} {m : Store} {ka : Addr} {R : KD} {x : XD} {k : Mk} (hk : stOk c k) {row place : Int} {red : Bool} {acc : List D} (r0 : 0 ≤ row) (r1 : row ≤ 60) (p0 : 0 ≤ place) (p1 : place ≤ 2 * c) (hacc : acc.length ≤ 30000)
    (hix : ∀ (acc : List D) (K : KD), wIx d (.int k.n) (sup m ka (.lst acc)) K = K (mkB k) (sup m ka (.lst acc))) {v6 v7 v8 v9 v10 v11 : Option D} {P : Env → Store → Prop} {K : SK}
    (hP : ∀ v6 v7 v8 v9 v10, P [some (machD c dead dn), some d, some (.ref ka), some (.int k.row), some (.int (if k.sign ∈ dead then k.place else k.place + 2)), some (colD k.red), v6, v7, v8, v9, v10, v11] (sup m ka (.lst (acc ++ stepD dn dead row place red k)))) :
    gTp [6, 7, 8] (.tup [.int k.row, .int k.place, .int k.n]) [some (machD c dead dn), some d, some (.ref ka), some (.int row), some (.int place), some (colD red), v6, v7, v8, v9, v10, v11] (sup m ka (.lst acc)) fun r' m' =>
      (wSeq (wAsg (wSl (wCut false) (wOp wIx (wVar 1) (wVar 8)) (oSome (wC (.int 2))) (oNone)) (gTp [9, 10])) (wSeq (wIfS (wAnd (wTest (wOp wGt (wVar 6) (wVar 3))) (wTest (wOp wGt (wVar 4) (wC (.int 0))))) (wSeq (wExp (wMt "list" wExtend (wVar 2) (wCons (wCall 2 (ph_home A) (wCons (wVar 0) (wCons (wVar 3) (wNil)))) (wNil)))) (wPar 3 4 (wCons (wCall 2 (ph_home_row A) (wCons (wVar 0) (wCons (wVar 3) (wNil)))) (wCons (wC (.int 0)) (wNil))))) (wNext)) (psQ2 A))) r' m' { K with nx := P, ct := P, bk := K.nx } := by
  have L : LIM = 16777216 := rfl
  have hc := hM.hi
  have d2 := hM.d2
  have d4 := hM.d4
  obtain ⟨kr0, kr1, kp0, kp1, ksg⟩ := hk
  have ct : ∀ (m : Store) (K : KD), wCut false (mkB k) (some 2) none m K = K (.tup [ch k.sign, colD k.red]) m := fun _ _ => rfl
  have i1 : ∀ (m : Store) (K : KD), wIx (machD c dead dn) (.int 1) m K = K (.tup (dead.map ch)) m := fun _ _ => rfl
  have hhl : ((homeK dn row).map kyD).length ≤ 10 := by
    unfold homeK; split <;> simp; omega
  -- behind home
  have rest : ∀ (row1 place1 : Int) (ac : List D) (u6 u7 u8 u9 u10 : Option D), 0 ≤ row1 → row1 ≤ 60 → 0 ≤ place1 → place1 ≤ 2 * c → ac.length ≤ 30100 →
      ac ++ ((List.replicate (k.row - row1).toNat (k1 "down") ++ List.replicate (row1 - k.row).toNat (k1 "up") ++ ledD place1 k.place) ++ (if k.red = red then [] else [k1 "ribbon"]) ++ keysOf [k.sign]) = acc ++ stepD dn dead row place red k →
      (psQ2 A) [some (machD c dead dn), some d, some (.ref ka), some (.int row1), some (.int place1), some (colD red), some (.int k.row), some (.int k.place), u8, some (ch k.sign), some (colD k.red), v11] (sup m ka (.lst ac)) { K with nx := P, ct := P, bk := K.nx } := by
    intro row1 place1 ac u6 u7 u8 u9 u10 q0 q1 s0 s1 hac he
    have b0 := backs_nn place1 k.place
    obtain ⟨b1, b2⟩ := backs_le s0 kp0
    have ll : (ledD place1 k.place).length ≤ 300 := by
      simp only [ledD, onD, List.length_append, List.length_replicate]; omega
    simp only [psQ2, wSub, wMul, asL, tyM, sup_same, s_seq, s_if, s_set, s_ret, s_retN, s_next, s_exp, s_asg, s_for, s_par, s_raise, e_test, e_not, e_and, e_or, e_andV, e_orV, e_notV, e_op, e_un, e_if, e_call, e_callB, e_cons, e_nil, e_tup, e_lst, e_nwF, e_c, e_var, e_sl, e_oSome, e_oNone, e_chain, e_lc, e_seqI, e_mt, e_frz, e_fgt, g_nm, g_tp, putAllS, putAll0, wipeS, wipe0, getS, get0, putS, put0, ok_some]
    refine ⟨trivial, by decide, by decide, _, rfl, by omega, by omega, by simp; omega, by decide, by decide, _, rfl, by omega, by omega, by simp; omega, ?_⟩
    simp only [repD_one]
    refine ⟨_, _, rfl, rfl, by simp; omega, ?_⟩
    refine ⟨rfl, _, _, rfl, s0, by omega, kp0, by omega, ?_⟩
    refine ⟨_, _, rfl, rfl, ?_, ?_⟩
    · simp; omega
    refine ⟨_, _, sup_same, rfl, ?_, ?_⟩
    · simp; omega
    rw [sup_sup]
    have hne : ∀ (m : Store) (K : KD), wNe (colD k.red) (colD red) m K = K (.bl (!decide (k.red = red))) m := fun m K => by
      cases k.red <;> cases red <;> rfl
    simp only [hne]
    -- the ribbon
    have fin : ∀ ac2 : List D, ac2.length ≤ 31000 → ac2 ++ keysOf [k.sign] = acc ++ stepD dn dead row place red k → (psQ3 A) [some (machD c dead dn), some d, some (.ref ka), some (.int row1), some (.int place1), some (colD red), some (.int k.row), some (.int k.place), u8, some (ch k.sign), some (colD k.red), v11] (sup m ka (.lst ac2)) { K with nx := P, ct := P, bk := K.nx } := by
      intro ac2 hl2 he2
      simp only [psQ3, tyM, sup_same, s_seq, s_if, s_set, s_ret, s_retN, s_next, s_exp, s_asg, s_for, s_par, s_raise, e_test, e_not, e_and, e_or, e_andV, e_orV, e_notV, e_op, e_un, e_if, e_call, e_callB, e_cons, e_nil, e_tup, e_lst, e_nwF, e_c, e_var, e_sl, e_oSome, e_oNone, e_chain, e_lc, e_seqI, e_mt, e_frz, e_fgt, g_nm, g_tp, putAllS, putAll0, wipeS, wipe0, getS, get0, putS, put0, ok_some]
      refine ⟨trivial, rfl, ⟨#[k.sign]⟩, rfl, by show 1 ≤ 1000; decide, fun kb nkb => ?_⟩
      refine ⟨kb, _, rfl, sup_same, ?_⟩
      rw [sdel_sup nkb]
      have kl := keysOf_len [k.sign]
      simp only [wExtend, sup_same, asL, sup_sup]
      refine ⟨_, _, rfl, rfl, by simp at kl ⊢; omega, ?_⟩
      have el : (⟨#[k.sign]⟩ : Str).cps.toList = [k.sign] := rfl
      rw [he2]
      simp only [s_par3, i1, s_seq, s_if, s_set, s_ret, s_retN, s_next, s_exp, s_asg, s_for, s_par, s_raise, e_test, e_not, e_and, e_or, e_andV, e_orV, e_notV, e_op, e_un, e_if, e_call, e_callB, e_cons, e_nil, e_tup, e_lst, e_nwF, e_c, e_var, e_sl, e_oSome, e_oNone, e_chain, e_lc, e_seqI, e_mt, e_frz, e_fgt, g_nm, g_tp, putAllS, putAll0, wipeS, wipe0, getS, get0, putS, put0, ok_some]
      refine in_dead2 hA ?_
      by_cases e : k.sign ∈ dead
      · simp only [e, decide_true, if_true]
        have := hP (some (.int k.row)) (some (.int k.place)) u8 (some (ch k.sign)) (some (colD k.red))
        rw [if_pos e] at this
        exact this
      · simp only [e, decide_false, Bool.false_eq_true, if_false]
        have := hP (some (.int k.row)) (some (.int k.place)) u8 (some (ch k.sign)) (some (colD k.red))
        rw [if_neg e] at this
        simp only [wAddI, s_seq, s_if, s_set, s_ret, s_retN, s_next, s_exp, s_asg, s_for, s_par, s_raise, e_test, e_not, e_and, e_or, e_andV, e_orV, e_notV, e_op, e_un, e_if, e_call, e_callB, e_cons, e_nil, e_tup, e_lst, e_nwF, e_c, e_var, e_sl, e_oSome, e_oNone, e_chain, e_lc, e_seqI, e_mt, e_frz, e_fgt, g_nm, g_tp, putAllS, putAll0, wipeS, wipe0, getS, get0, putS, put0, ok_some]
        exact this
    by_cases er : k.red = red
    · have ed : decide (k.red = red) = true := decide_eq_true er
      simp only [ed, Bool.not_true, Bool.false_eq_true, if_false, s_next]
      simp only [er, if_true, List.append_nil] at he
      refine fin _ (by simp; omega) ?_
      rw [← he]; simp [k1, wordD]
    · simp only [er, decide_false, Bool.not_false, if_true]
      simp only [er, if_false] at he
      simp only [tyM, sup_same, wAppend, sup_sup, s_seq, s_if, s_set, s_ret, s_retN, s_next, s_exp, s_asg, s_for, s_par, s_raise, e_test, e_not, e_and, e_or, e_andV, e_orV, e_notV, e_op, e_un, e_if, e_call, e_callB, e_cons, e_nil, e_tup, e_lst, e_nwF, e_c, e_var, e_sl, e_oSome, e_oNone, e_chain, e_lc, e_seqI, e_mt, e_frz, e_fgt, g_nm, g_tp, putAllS, putAll0, wipeS, wipe0, getS, get0, putS, put0, ok_some]
      refine ⟨trivial, by decide, _, rfl, ?_, ?_⟩
      · simp; omega
      refine fin _ (by simp; omega) ?_
      rw [← he]; simp [k1, wordD]
  simp only [hix, ct, wGt, s_seq, s_if, s_set, s_ret, s_retN, s_next, s_exp, s_asg, s_for, s_par, s_raise, e_test, e_not, e_and, e_or, e_andV, e_orV, e_notV, e_op, e_un, e_if, e_call, e_callB, e_cons, e_nil, e_tup, e_lst, e_nwF, e_c, e_var, e_sl, e_oSome, e_oNone, e_chain, e_lc, e_seqI, e_mt, e_frz, e_fgt, g_nm, g_tp, putAllS, putAll0, wipeS, wipe0, getS, get0, putS, put0, ok_some]
  refine ⟨rfl, rfl, ?_⟩
  by_cases hb : row < k.row ∧ 0 < place
  · have hb' : (decide (row < k.row) && decide (0 < place)) = true := by simp [hb]
    simp only [hb.1, hb.2, decide_true, if_true]
    simp only [tyM, sup_same, wExtend, asL, sup_sup, s_seq, s_if, s_set, s_ret, s_retN, s_next, s_exp, s_asg, s_for, s_par, s_raise, e_test, e_not, e_and, e_or, e_andV, e_orV, e_notV, e_op, e_un, e_if, e_call, e_callB, e_cons, e_nil, e_tup, e_lst, e_nwF, e_c, e_var, e_sl, e_oSome, e_oNone, e_chain, e_lc, e_seqI, e_mt, e_frz, e_fgt, g_nm, g_tp, putAllS, putAll0, wipeS, wipe0, getS, get0, putS, put0, ok_some]
    refine ⟨trivial, rfl, c, dead, dn, row, rfl, hM, ?_⟩
    refine ⟨_, _, sup_same, rfl, ?_, ?_⟩
    · omega
    rw [sup_sup]
    refine ⟨rfl, c, dead, dn, row, rfl, ?_⟩
    refine rest (homeR dn row) 0 _ none none _ none none ?_ ?_ (by omega) (by omega) (by rw [List.length_append]; omega) ?_
    · unfold homeR; split <;> omega
    · unfold homeR; split <;> omega
    · simp [stepD, hb']
  · have hb' : (decide (row < k.row) && decide (0 < place)) = false := by
      rw [Bool.and_eq_false_iff]
      by_cases h1 : row < k.row
      · right; simp; omega
      · left; simp; omega
    have key : ∀ (X Y : Prop), Y → (if decide (row < k.row) = true then (if decide (0 < place) = true then X else Y) else Y) := by
      intro X Y hY
      split
      · split
        · rename_i a b; exact absurd ⟨by simpa using a, by simpa using b⟩ hb
        · exact hY
      · exact hY
    refine key _ _ ?_
    refine rest row place acc none none _ none none r0 r1 p0 p1 (by omega) ?_
    simp [stepD, hb']
theorem num_of {c : Int} : ∀ (xs : List D) (n : Nat), (∀ d ∈ xs, strikeB c d = true) → ∃ ms : List Mk, xs = ms.map mkB ∧ (∀ (i : Nat) (k : Mk), ms[i]? = some k → k.n = ((n + i : Nat) : Int)) ∧ ∀ k ∈ ms, stOk c k
  | [], _, _ => ⟨[], rfl, by simp, by simp⟩
  | d :: xs, n, h => by
    obtain ⟨ms, e, h1, h2⟩ := num_of xs (n + 1) fun d hd => h d (List.mem_cons_of_mem _ hd)
    have hd := h d List.mem_cons_self
    obtain ⟨k, ek, kn, ko⟩ : ∃ k : Mk, d = mkB k ∧ k.n = (n : Int) ∧ stOk c k := by
      unfold strikeB at hd
      split at hd
      · rename_i a b s w
        simp only [Bool.and_eq_true] at hd
        obtain ⟨⟨⟨ha, hb⟩, hs⟩, hw⟩ := hd
        cases a <;> simp [wholeB] at ha
        cases b <;> simp [wholeB] at hb
        rename_i a b
        obtain ⟨cs, rfl, hcs⟩ : ∃ g, s = ch g ∧ g ∈ (G_SIGNS ++ G_GREAT).cps.toList := by
          cases s <;> simp only [oneOfB] at hs <;> try exact absurd hs (by decide)
          rename_i t
          split at hs
          · rename_i g eg
            refine ⟨g, ?_, by simpa using hs⟩
            have : t.cps = #[g] := by rw [← Array.toList_inj, eg]
            cases t; simp at this; subst this; rfl
          · exact absurd hs (by decide)
        obtain ⟨red, rfl⟩ : ∃ red, w = colD red := by
          cases w <;> simp [colB] at hw
          rcases hw with e | e
          · subst e; exact ⟨false, rfl⟩
          · subst e; exact ⟨true, rfl⟩
        exact ⟨⟨n, a, b, cs, red⟩, rfl, rfl, ⟨ha.1, ha.2, hb.1, hb.2, hcs⟩⟩
      · exact absurd hd (by decide)
    refine ⟨k :: ms, by simp [ek, e], fun i j hij => ?_, fun j hj => ?_⟩
    · cases i with
      | zero => simp at hij; subst hij; simpa using kn
      | succ i => have := h1 i j (by simpa using hij); rw [this]; omega
    · rcases List.mem_cons.mp hj with z | z
      · subst z; exact ko
      · exact h2 j z
theorem num_pw {ms : List Mk} (h : Num ms) : ms.Pairwise (fun a b => a.n < b.n) := by
  rw [List.pairwise_iff_getElem]
  intro i j hi hj hij
  have e1 := h i ms[i] (List.getElem?_eq_getElem hi)
  have e2 := h j ms[j] (List.getElem?_eq_getElem hj)
  omega
theorem trip_lt (a b : Mk) : ltD (.tup [.int a.row, .int a.place, .int a.n]) (.tup [.int b.row, .int b.place, .int b.n]) = mkLt a b := by
  rw [ltD_cons (alikeD_int _ _) (n := 5) (k := 5) rfl rfl, ltD_cons (alikeD_int _ _) (n := 5) (k := 5) rfl rfl, ltD_cons (alikeD_int _ _) (n := 5) (k := 5) rfl rfl]
  simp only [ltD_int, ltD_nil, eqD]
  rw [Bool.eq_iff_iff, mkLt_iff]
  by_cases h1 : a.row = b.row
  · by_cases h2 : a.place = b.place
    · by_cases h3 : a.n = b.n
      · simp [h1, h2, h3]
      · simp [h1, h2, h3]
    · simp [h1, h2]
  · simp [h1]
theorem dt_keys_for : ∀ ds m R x, ph_keys_for A ds m R x → psi_keys_for A (startD 12 ds) m (endD R x) := by
  rintro ds m R x ⟨dm, d, rfl, h⟩
  have L : LIM = 16777216 := rfl
  simp [psi_keys_for]
  refine ⟨dm, rfl, h.imp fun c dead dn e hM hR => ?_⟩
  subst e
  clear h
  obtain ⟨⟨ht, hs⟩, hno, hyes⟩ := hR
  obtain ⟨n, hn⟩ := Option.isSome_iff_exists.mp ht
  simp only [psi_keys_for_t1, wIsi, List.replicate, s_seq, s_if, s_set, s_ret, s_retN, s_next, s_exp, s_asg, s_for, s_par, s_raise, e_test, e_not, e_and, e_or, e_andV, e_orV, e_notV, e_op, e_un, e_if, e_call, e_callB, e_cons, e_nil, e_tup, e_lst, e_nwF, e_c, e_var, e_sl, e_oSome, e_oNone, e_chain, e_lc, e_seqI, e_mt, e_frz, e_fgt, g_nm, g_tp, putAllS, putAll0, wipeS, wipe0, getS, get0, putS, put0, ok_some]
  refine ⟨by simp, ok_iff.mpr ⟨n, hn, ?_⟩⟩
  cases hxs : asL m d with
  | none =>
    have e2 : isiN n "list" = false := by
      have : n ≠ "list" := by
        rintro rfl
        cases d with
        | lst xs => simp [asL] at hxs
        | ref a =>
          simp [tyN] at hn
          simp [asL] at hxs
          cases e : m a with
          | none => simp [e] at hn
          | some o => cases o <;> simp [e] at hn hxs
        | _ => simp [tyN] at hn
      simp [isiN, this]
    simp [e2]
    exact hno (by simp [strikesB, hxs])
  | some xs =>
    obtain ⟨hl, hw⟩ := hs xs hxs
    have e2 : isiN n "list" = true := by
      have : n = "list" := by
        cases d with
        | lst xs => simp [tyN] at hn; exact hn.symm
        | ref a =>
          simp [tyN] at hn
          simp [asL] at hxs
          cases e : m a with
          | none => simp [e] at hn
          | some o => cases o <;> simp [e] at hn hxs; exact hn.symm
        | _ => simp [asL] at hxs
      simp [isiN, this]
    have h60 : ∀ K : KD, wGt (.int (xs.length : Nat)) (.int 60) m K = K (.bl (decide ((60 : Int) < (xs.length : Int)))) m := fun _ => rfl
    simp only [e2, Bool.not_true, Bool.false_eq_true, if_false, seq_len hxs, h60, s_seq, s_if, s_set, s_ret, s_retN, s_next, s_exp, s_asg, s_for, s_par, s_raise, e_test, e_not, e_and, e_or, e_andV, e_orV, e_notV, e_op, e_un, e_if, e_call, e_callB, e_cons, e_nil, e_tup, e_lst, e_nwF, e_c, e_var, e_sl, e_oSome, e_oNone, e_chain, e_lc, e_seqI, e_mt, e_frz, e_fgt, g_nm, g_tp, putAllS, putAll0, wipeS, wipe0, getS, get0, putS, put0, ok_some]
    by_cases hl60 : 60 < xs.length
    · have z : (60 : Int) < (xs.length : Int) := by omega
      simp only [z, decide_true, if_true]
      refine hno ?_
      simp only [strikesB, hxs, decide_eq_false (show ¬ xs.length ≤ 60 by omega), Bool.false_and]
    have z : ¬ (60 : Int) < (xs.length : Int) := by omega
    simp only [z, decide_false, Bool.false_eq_true, if_false]
    refine seq_asI hxs _ ?_
    refine lc_pure (G := keepG d xs) (fun w => some (.bl (strikeB c w))) (keep_ok hxs) xs [] _ (by simp; omega) (fun w hwm K1 K0 hK => ?_) ?_
    · simp only [e_yes, if_true, s_seq, s_if, s_set, s_ret, s_retN, s_next, s_exp, s_asg, s_for, s_par, s_raise, e_test, e_not, e_and, e_or, e_andV, e_orV, e_notV, e_op, e_un, e_if, e_call, e_callB, e_cons, e_nil, e_tup, e_lst, e_nwF, e_c, e_var, e_sl, e_oSome, e_oNone, e_chain, e_lc, e_seqI, e_mt, e_frz, e_fgt, g_nm, g_tp, putAllS, putAll0, wipeS, wipe0, getS, get0, putS, put0, ok_some]
      exact ⟨rfl, c, dead, dn, w, rfl, hM, hw w hwm m, hK⟩
    have ef : xs.filterMap (fun w => some (D.bl (strikeB c w))) = xs.map fun w => D.bl (strikeB c w) := List.filterMap_eq_map ▸ rfl
    rw [List.nil_append, ef]
    have e : (xs.map fun w => D.bl (strikeB c w)) = (xs.map fun w => strikeB c w).map .bl := by simp
    rw [e]
    refine all_lst ?_
    have e3 : ((xs.map fun w => strikeB c w).all id) = xs.all (strikeB c) := by simp [List.all_map, Function.comp_def]
    rw [e3]
    cases hb : xs.all (strikeB c) with
    | false =>
      simp only [Bool.not_false, if_true]
      refine hno ?_
      simp only [strikesB, hxs, hb, Bool.and_false]
    | true =>
      obtain ⟨ms, rfl, hnum, hok⟩ := num_of hA xs 0 (List.all_eq_true.mp hb)
      have hnum : Num ms := fun i k hik => by have := hnum i k hik; simpa using this
      have hml : ms.length ≤ 60 := by simp at hl60; omega
      have hfin := hyes ms hxs hnum hok hml
      have hpw := num_pw hA hnum
      simp only [Bool.not_true, Bool.false_eq_true, if_false, psi_keys_for_t2, e_nwT, psi_keys_for_t3, List.replicate, s_seq, s_if, s_set, s_ret, s_retN, s_next, s_exp, s_asg, s_for, s_par, s_raise, e_test, e_not, e_and, e_or, e_andV, e_orV, e_notV, e_op, e_un, e_if, e_call, e_callB, e_cons, e_nil, e_tup, e_lst, e_nwF, e_c, e_var, e_sl, e_oSome, e_oNone, e_chain, e_lc, e_seqI, e_mt, e_frz, e_fgt, g_nm, g_tp, putAllS, putAll0, wipeS, wipe0, getS, get0, putS, put0, ok_some]
      refine ⟨by decide, fun ka nka => ⟨by decide, rfl, ?_⟩⟩
      have hk2 : ∀ ac : List D, asL (sup m ka (.lst ac)) d = some (ms.map mkB) := by
        intro ac
        cases d with
        | ref a =>
          have hne : a ≠ ka := by
            rintro rfl
            have := keep_ok hxs
            simp [keepG, nka] at this
          simp only [asL, sup_ne hne]
          simpa [asL] using hxs
        | lst ys => exact hxs
        | _ => simp [asL] at hxs
      have hix : ∀ k ∈ ms, ∀ (ac : List D) (K : KD), wIx d (.int k.n) (sup m ka (.lst ac)) K = K (mkB k) (sup m ka (.lst ac)) := by
        intro k hk ac K
        obtain ⟨i, hi, e⟩ := List.getElem_of_mem hk
        have e4 : ms[i]? = some k := by rw [List.getElem?_eq_getElem hi, e]
        have e5 := hnum i k e4
        rw [e5]
        exact seq_ix (hk2 ac) (by simp [e4]) K
      simp only [psi_keys_for_t4, s_seq, s_for, e_seqI, e_callB, e_cons, e_nil, e_lc]
      refine seq_enum (hk2 []) (fun K => rfl) _ ?_
      refine lc_trip (keep_ok (hk2 [])) ms 0 [] _ (fun i k hik => by have := hnum i k hik; simpa using this) (by simp; omega) ?_
      rw [List.nil_append]
      simp only [e_nwF]
      refine sort_by trip mkLt ms rfl (fun k _ => rfl) (fun a _ b _ => rfl) (.inl fun d hd => ?_) (fun a _ b _ => trip_lt hA a b) fun ys hp hs => ?_
      · obtain ⟨k, _, rfl⟩ := List.mem_map.mp hd; exact ⟨_, _, rfl⟩
      have ey := sortM_is hpw hp hs
      subst ey
      simp only [e_nwF, asI]
      have hsk : ∀ k ∈ sortM ms, k ∈ ms := fun k hk => hp.mem_iff.mp hk
      have hsl : (sortM ms).length = ms.length := hp.length_eq
      generalize sortM ms = S at hfin hsk hsl ⊢
      refine for_inv (fun ds e m' => ∃ (ks : List Mk) (row place : Int) (red : Bool) (ac : List D) (v6 v7 v8 v9 v10 v11 : Option D), ds = ks.map trip ∧ (∀ k ∈ ks, k ∈ ms) ∧ 0 ≤ row ∧ row ≤ 60 ∧ 0 ≤ place ∧ place ≤ 2 * c ∧ ks.length ≤ 60 ∧ ac.length + 480 * ks.length ≤ 480 * 60 ∧ ac ++ forD dn dead row place red ks = forD dn dead 0 0 false S ∧ e = [some (machD c dead dn), some d, some (.ref ka), some (.int row), some (.int place), some (colD red), v6, v7, v8, v9, v10, v11] ∧ m' = sup m ka (.lst ac)) _ _ _ ⟨S, 0, 0, false, [], _, _, _, _, _, _, rfl, hsk, by omega, by omega, by omega, by have := hM.lo; omega, by omega, by simp; omega, rfl, rfl, rfl⟩ ?_ ?_
      · rintro q ds e m' ⟨ks, row, place, red, ac, v6, v7, v8, v9, v10, v11, e1, hks, r0, r1, p0, p1, hkl, hacl, hc, rfl, rfl⟩ P hP
        cases ks with
        | nil => cases e1
        | cons k ks =>
          obtain ⟨rfl, rfl⟩ := List.cons.inj e1
          refine ⟨trivial, ?_⟩
          have hkm := hks k List.mem_cons_self
          have hk := hok k hkm
          have sl := step_len (red := red) hM hk r0 r1 p0 p1
          simp only [List.length_cons] at hkl hacl
          refine kf_body hA (R := R) (x := x) hM hk r0 r1 p0 p1 (by omega) (hix k hkm) fun w6 w7 w8 w9 w10 => ?_
          refine hP _ _ ⟨ks, k.row, _, k.red, _, _, _, _, _, _, _, rfl, fun j hj => hks j (List.mem_cons_of_mem _ hj), hk.r0, hk.r1, ?_, ?_, by omega, by rw [List.length_append]; omega, ?_, rfl, rfl⟩
          · have := hk.p0; split <;> omega
          · have := hk.p1; split <;> omega
          · rw [← hc]; simp [forD]
      · rintro e m' ⟨ks, row, place, red, ac, v6, v7, v8, v9, v10, v11, e1, hks, r0, r1, p0, p1, hkl, hacl, hc, rfl, rfl⟩
        refine ⟨trivial, ?_⟩
        have e3 : ks = [] := by cases ks with | nil => rfl | cons a b => cases e1
        subst e3
        simp only [forD, List.append_nil] at hc
        subst hc
        simp only [psi_keys_for_t5, wTuple, asQ, asL, sup_same, s_seq, s_if, s_set, s_ret, s_retN, s_next, s_exp, s_asg, s_for, s_par, s_raise, e_test, e_not, e_and, e_or, e_andV, e_orV, e_notV, e_op, e_un, e_if, e_call, e_callB, e_cons, e_nil, e_tup, e_lst, e_nwF, e_c, e_var, e_sl, e_oSome, e_oNone, e_chain, e_lc, e_seqI, e_mt, e_frz, e_fgt, g_nm, g_tp, putAllS, putAll0, wipeS, wipe0, getS, get0, putS, put0, ok_some]
        exact ⟨m, fun a o e => by rw [sup_ne (by rintro rfl; rw [nka] at e; cases e)]; exact e, hfin⟩
end DL
end
section
set_option maxHeartbeats 0
namespace DL
open PySem PySem.Spec PyProof.Rows L2
section
variable {X : Cx} {W : WX} {a b c o e : Expr} {fa fb fc : WE} {pos p apos cpos : Pos} {K : PySem.W.Frag} {B H : Hp} {m : Store}
def wDNew : WE := fun _ m R _ => ∀ a, m a = none → R (.ref a) (sup m a (.dct []))
theorem pd_dnew : PE X (.Dict [] [] pos) (up X.K W wDNew) := PE.imp pe_dnewK fun σ H Q h => by
  obtain ⟨B, ρ, m, R, x, er, S, h, t, tx⟩ := h
  intro q nq
  obtain ⟨nm, S1, f1⟩ := S.new (p := q) (ho := .dK []) (mo := .dct []) nq Paired.nil
  exact t B _ _ _ _ (Same.refl B) S1 f1 (.ref q) (h q nm)
def wSetDef : WM := fun d us m R => match d, us with
  | .ref a, [q, y] => ∃ kvs, m a = some (.dct kvs) ∧ kvs.length < LIM ∧ ok (keyD q) fun q => (∀ v, lookK kvs q = some v → R v m) ∧ (lookK kvs q = none → R y (sup m a (.dct (putKD q y kvs))))
  | _, _ => False
theorem mt_setdef : MtR X "dict.setdefault" (fun x xs H Q => ∃ (a : Addr) (kvs : List (Key × V)) (k : Key) (y : V), x = .ref a ∧ xs = [kV k, y] ∧ H a = some (.dK kvs) ∧ kvs.length < sizeLine ∧ (∀ v, valV kvs k = some v → Q v H) ∧ (valV kvs k = none → Q y (upd H a (.dK (putK kvs k y))))) := by
  intro pins s σ H x xs v us Q I rx rxs h
  obtain ⟨a, kvs, k, y, rfl, rfl, ha, hz, q1, q2⟩ := h
  cases rx
  cases rxs with
  | cons rk r2 => cases r2 with
    | cons ry r3 =>
      cases r3
      rename_i uk uy
      obtain ⟨z1, hd1, vs, rel1, dd1⟩ := dk_of I.hok ha
      have hv := rel1.val k
      refine call_meetsIn PySem.F.slot_dict_setdefault dd1.typeIs PySem.F.entry_dict_setdefault (PySem.F.args_dict_setdefault_3 _ _ _) (kt_meets_setdefault (mixKind X.prog X.w) a (kV_is rk) hd1 uy) ⟨vs, dd1, by rw [← rel1.length]; exact z1, fun u hu => ?_, fun hn h' hd' hs => ?_⟩
      · rw [hu] at hv
        cases e : valV kvs k with
        | none => rw [e] at hv; exact hv.elim
        | some z => rw [e] at hv; exact ⟨z, _, I.tok _, hv, q1 z e⟩
      · rw [hn] at hv
        cases e : valV kvs k with
        | some z => rw [e] at hv; exact hv.elim
        | none =>
          have hlen : (putK kvs k y).length ≤ sizeLine := Nat.le_trans (length_putK kvs k y) hz
          refine ⟨y, _, d_write (t' := s.toks + 1) I (by rw [ha]; exact True.intro) hs ?_ (dk_new hlen hd1 (rel1.put k ry) hd'), ry, q2 e⟩
          obtain ⟨o, _, _, e, _⟩ := hd'
          exact ⟨o, e⟩
theorem setdef_ : MtD X "dict.setdefault" wSetDef := by
  refine ⟨_, mt_setdef, fun B u d us ds p ps H m R Q S h t => ?_⟩
  match d, ds, h with
  | .ref a, [q, y], h =>
    obtain ⟨v, w, rfl, pq, py⟩ := two_arg ps rfl
    cases p
    obtain ⟨kvs, h1, h2, h3⟩ := h
    obtain ⟨k, hk, h4, h5⟩ := ok_iff.mp h3
    obtain ⟨gs, e1, r1⟩ := S.dct h1
    have ev := keyD_v pq hk
    subst ev
    refine ⟨a, gs, k, w, rfl, rfl, e1, by rw [← LIM_eq, r1.length]; exact h2, fun z hz => ?_, fun hz => ?_⟩
    · cases e : lookK kvs k with
      | none => rw [(r1.val (k := k)).1 e] at hz; cases hz
      | some dz =>
        obtain ⟨z', e2, pz⟩ := (r1.val (k := k)).2 dz e
        rw [e2] at hz; cases hz
        exact eff_ret S t pz (h4 dz e)
    · cases e : lookK kvs k with
      | some dz =>
        obtain ⟨z', e2, pz⟩ := (r1.val (k := k)).2 dz e
        rw [e2] at hz; cases hz
      | none =>
        obtain ⟨S1, f1⟩ := S.putD h1 (r1.put (k := k) py)
        exact t B _ _ _ _ (Same.refl B) S1 f1 py (h5 e)
def keyV : DKey → D
  | .inl i => .int i
  | .inr s => .str s
theorem keys_dp {gs : List (Key × V)} {kvs : List (DKey × D)} (r : KRel K B gs kvs) : DpAll K B (gs.map fun kv => kV kv.1) (kvs.map fun kv => keyV kv.1) := by
  induction r with
  | nil => exact .nil
  | cons h t ih =>
    rename_i p q ps qs
    refine .cons ?_ ih
    obtain ⟨k, v⟩ := p
    obtain ⟨k', d⟩ := q
    have e : k = k' := h.1
    subst e
    cases k with
    | inl i => exact .int i
    | inr s => exact .str s
def wListD (b : Bool) : WL := fun us m R => match us with
  | [.ref a] => ∃ kvs, m a = some (.dct kvs) ∧ wNw b (kvs.map fun kv => keyV kv.1) m R
  | _ => False
theorem listD_ {b : Bool} (hc : X.calm = true) : CallD X (.type "list") (wListD b) := by
  refine ⟨_, call_list_dK hc, fun B us ds p H m R Q S h t => ?_⟩
  match ds, h with
  | [.ref a], h =>
    obtain ⟨v, rfl, p1⟩ := one_arg p rfl
    cases p1
    obtain ⟨kvs, h1, h2⟩ := h
    obtain ⟨gs, e1, r1⟩ := S.dct h1
    exact ⟨a, gs, rfl, e1, eff_nw S t (keys_dp r1) h2⟩
def wLenD : WL := fun us m R => match us with
  | [.ref a] => ∃ kvs, m a = some (.dct kvs) ∧ R (.int (kvs.length : Nat)) m
  | _ => False
theorem lenD_ : CallD X (.builtin "len") wLenD := by
  refine ⟨_, call_lenD, fun B us ds p H m R Q S h t => ?_⟩
  match ds, h with
  | [.ref a], h =>
    obtain ⟨v, rfl, p1⟩ := one_arg p rfl
    cases p1
    obtain ⟨kvs, h1, h2⟩ := h
    obtain ⟨gs, e1, r1⟩ := S.dct h1
    exact ⟨a, gs, rfl, e1, by rw [r1.length]; exact eff_ret S t (.int _) h2⟩
end
end DL
end
section
set_option maxHeartbeats 0
namespace DL
open PySem PySem.Spec PyProof.Rows L2
section
variable {P : Program} {w : World} {A : Around} {E : Value → Shared → Prop} {s : Shared}
theorem sorted_tail {Q : Value → Shared → Prop} (hu : A.units + 20 < cLine) {r : Addr} (hcol : wpAny (model P w) A.in1 (collect (.ref r)) (fun vs s1 => ∃ z1 : List (V × D), vs = (z1.map fun z => Value.ref (adr z.1)) ∧ (∀ z ∈ z1, Reads s1.heap (.ref (adr z.1)) (toPy z.2) []) ∧ (∀ x ∈ z1, ∀ y ∈ z1, alikeD x.2 y.2 = true) ∧ (∀ z ∈ z1, ∃ x r, z.2 = .tup (x :: r)) ∧ (∀ z ∈ z1, (toPy z.2).depth ≤ 8) ∧ z1.length ≤ 100000 ∧
    (∀ (s' : Shared) (c : Nat) (zs : List (V × D)), (∀ b o, s1.heap.get? b = some o → s'.heap.get? b = some o) → s'.gens = s1.gens → s'.os = s1.os → s'.heap.get? s1.heap.objs.size = some (seqObj "list" (zs.map fun z => Value.ref (adr z.1)).toArray c) → zs.Perm z1 → zs.Pairwise (fun x y => ltD y.2 x.2 = false) → Q (.ref s1.heap.objs.size) s')) E s) :
    wpAny (model P w) A (call (.builtin "sorted") [.ref r]) Q E s := by
  refine Calls.call_function_entry kind_sorted plain_sorted entry_sorted (args_sorted1 _) ?_
  unfold Builtin.«sorted»
  refine wpAny_bind (m := checkCount "sorted" 1 1 _) (wpAny_pure (wpAny_bind (thn hcol fun vs s1 ⟨z1, evs, hrd, hal, hso, hdp, hl, hQ⟩ => ?_)))
  subst evs
  have hvl : (z1.map fun z => Value.ref (adr z.1)).length ≤ sizeLine := by rw [List.length_map, sizeLine_eq]; omega
  refine wpAny_bind (wpAny_newList ?_ hvl)
  have hoL : (s1.heap.push (seqObj "list" (z1.map fun z => Value.ref (adr z.1)).toArray 0)).get? s1.heap.objs.size = some (seqObj "list" (z1.map fun z => Value.ref (adr z.1)).toArray 0) := Heap.get?_push_size _ rfl
  have er : ∀ zs : List (V × D), (∀ z ∈ zs, z ∈ z1) → PySem.W.EachIs (fun (u : Value) (b : V × D) => ∃ as, Reads (s1.heap.push (seqObj "list" (z1.map fun z => Value.ref (adr z.1)).toArray 0)) u (toPy b.2) as ∧ s1.heap.objs.size ∉ as) (zs.map fun z => Value.ref (adr z.1)) zs := by
    intro zs
    induction zs with
    | nil => exact fun _ => .nil
    | cons z zs ih => exact fun h => .cons ⟨[], PyProof.Rows.Reads.keeps (fun b u e => Heap.get?_push_of_some _ e) (hrd z (h z List.mem_cons_self)), by simp⟩ (ih fun y hy => h y (List.mem_cons_of_mem _ hy))
  refine wpAny_bind (wpAny_holding (PySem.W.list_sort_data (s := { s1 with heap := s1.heap.push (seqObj "list" (z1.map fun z => Value.ref (adr z.1)).toArray 0) }) (enc := fun b : V × D => toPy b.2) hoL (each_refs z1) (er z1 fun z hz => hz) ?_ ?_ (by rw [sizeLine_eq]; omega) (fun z hz => ?_) fun out hol he => ?_))
  · intro d hd d' hd'
    obtain ⟨x, h1, rfl⟩ := List.mem_map.mp hd
    obtain ⟨y, h2, rfl⟩ := List.mem_map.mp hd'
    exact hal _ h1 _ h2
  · left
    intro d hd
    obtain ⟨z, h1, rfl⟩ := List.mem_map.mp hd
    obtain ⟨x, r, e⟩ := hso z h1
    exact ⟨toPy x, toPys r, by rw [e]; rfl⟩
  · have := hdp z hz
    simp only [Around.in1_units]; omega
  · have hp : (z1.mergeSort (PySem.W.dataLe false fun b : V × D => toPy b.2)).Perm z1 := List.mergeSort_perm _ _
    have hsort : (z1.mergeSort (PySem.W.dataLe false fun b : V × D => toPy b.2)).Pairwise (fun x y => ltD y.2 x.2 = false) := by
      have T := PySem.W.sortLe_total (listOrd itemOrd) false (fun b : V × D => PySem.W.keyToks (toPy b.2))
      have h := List.pairwise_mergeSort (le := PySem.W.dataLe false fun b : V × D => toPy b.2) T.trans (fun a b => by rw [Bool.or_eq_true]; exact T.total a b) z1
      exact h.imp fun {x y} h => by
        simp only [PySem.W.dataLe_eq, cond_false, Bool.not_eq_true'] at h
        exact h
    generalize z1.mergeSort (PySem.W.dataLe false fun b : V × D => toPy b.2) = zs at hp hsort he
    rw [refs_each he]
    obtain ⟨c, hc⟩ := sortedHeap_at (vs := z1.map fun z => Value.ref (adr z.1)) (out := (zs.map fun z => Value.ref (adr z.1)).toArray) hoL
    refine wpAny_pure ⟨_, rfl, hQ _ c zs (fun b u e => ?_) rfl rfl hc hp hsort⟩
    have hlt := Heap.lt_size e
    show (sortedHeap (s1.heap.push (seqObj "list" (z1.map fun z => Value.ref (adr z.1)).toArray 0)) s1.heap.objs.size (z1.map fun z => Value.ref (adr z.1)) (zs.map fun z => Value.ref (adr z.1)).toArray).get? b = some u
    rw [sortedHeap_old (Nat.ne_of_lt hlt) (by rw [size_push']; exact Nat.lt_succ_of_lt hlt)]
    exact Heap.get?_push_of_some _ e
end
section
variable {X : Cx}
theorem tups_laid {pins : List (Addr × Obj)} {σ : L2.St} {H : Hp} {s : Shared} {h' : Heap} {tk : Nat} {gs : List (Key × V)} {vs : List (Key × Value)} {as : List Addr} (I : Inv X pins σ H s) (kv : KV gs vs)
    (hk : ∀ b o, s.heap.get? b = some o → h'.get? b = some o) (hl : as.length = vs.length) (hG : PySem.W.KdxG (mixKind X.prog X.w) vs s.heap.objs.size h' as) :
    (∀ t ∈ as, H t = none) ∧ as.Nodup ∧ Inv X pins σ (LiI.putT H as gs) { s with heap := h', toks := tk } := by
  have nd : as.Nodup := hG.rise.imp Nat.ne_of_lt
  have new : ∀ t ∈ as, H t = none := fun t ht => I.hok.fresh (Nat.le_of_lt (hG.above t ht))
  have lens : as.length = gs.length := by rw [hl]; exact (Paired.length kv).symm
  have pr := LiI.putT_at as gs H lens nd
  have old : ∀ b u, H b = some u → LiI.putT H as gs b = some u := fun b u e => by
    rw [LiI.putT_off as gs H fun z => by rw [new b z] at e; cases e]; exact e
  refine ⟨new, nd, I.call' (ch := []) rfl ?_ ?_ I.bare (fun b z => (List.not_mem_nil z).elim)⟩
  · constructor
    · intro b o q _ _ _; exact hk b o q
    · intro b o q _ _ _; exact ⟨o.slots, hk b o q⟩
    · intro b o q n _
      rw [LiI.putT_off as gs H fun z => Nat.lt_asymm (hG.above b z) (Heap.lt_size q)]; exact n
    · intro b o q _; exact ⟨o, hk b o q⟩
    · intro b xs q; exact old b _ q
    · intro b o u q; exact old b _ q
    · intro b ps q; exact ⟨#[], by rw [old b _ q, Array.append_empty]⟩
  · intro b u q
    rcases Classical.em (b ∈ as) with hb | hb
    · obtain ⟨j, g, ej, eg, eq⟩ := LiI.paired_ix pr hb
      obtain ⟨key, k, x, f1, f2, f3⟩ := hG.pairs j b ej
      obtain ⟨y, g1, g2, g3⟩ := LiI.paired_get kv eg
      have ey : y = (k, x) := Option.some.inj (g1.symm.trans f1)
      subst ey
      have eu : u = .tup [kV g.1, g.2] := Option.some.inj (q.symm.trans eq)
      subst eu
      have rk : RelV (kV g.1) key := by rw [g2]; exact relV_key f2
      exact ⟨by show 2 ≤ sizeLine; rw [sizeLine_eq]; decide, [key, x], .cons rk (.cons g3 .nil), ⟨_, f3, rfl, _, rfl⟩⟩
    · rw [LiI.putT_off as gs H hb] at q
      exact (I.hok b u q).stay (fun d v _ y => hk d v y) (fun d y => old d _ y) fun d xs y => old d _ y
structure ItemsOk (kds : List (DKey × D)) : Prop where
  nk : ∀ kd ∈ kds, nkOk (.tup [keyV kd.1, kd.2]) 8 = true
  al : ∀ x ∈ kds, ∀ y ∈ kds, alikeD (.tup [keyV x.1, x.2]) (.tup [keyV y.1, y.2]) = true
  few : kds.length ≤ 100000
def pairD (kd : DKey × D) : D := .tup [keyV kd.1, kd.2]
def KRd (K : PySem.W.Frag) (H : Hp) : List (Key × V) → List (DKey × D) → Prop := Paired fun (p : Key × V) (q : DKey × D) => p.1 = q.1 ∧ L2.Dp K H p.2 (toPy q.2)
def tSrtIt (K : PySem.W.Frag) (td : TE) : TE := fun σ H Q => td σ H fun x H1 => ∃ (d : Addr) (gs : List (Key × V)) (kds : List (DKey × D)), x = .ref d ∧ H1 d = some (.dK gs) ∧ KRd K H1 gs kds ∧ ItemsOk kds ∧
  ∀ (as : List Addr) (zs : List (V × D)) (p : Addr), as.length = gs.length → as.Nodup → (∀ t ∈ as, H1 t = none) → H1 p = none → p ∉ as → zs.Perm ((as.map V.ref).zip (kds.map pairD)) → zs.Pairwise (fun x y => ltD y.2 x.2 = false) → Q (.ref p) (upd (LiI.putT H1 as gs) p (.lst (zs.map (·.1))))
theorem items_reads {pins : List (Addr × Obj)} {σ : L2.St} {H : Hp} {s : Shared} {h' : Heap} {gs : List (Key × V)} {vs : List (Key × Value)} {kds : List (DKey × D)} {as : List Addr} (I : Inv X pins σ H s) (kv : KV gs vs) (h : KRd X.K H gs kds) (hI : ItemsOk kds)
    (hk : ∀ b o, s.heap.get? b = some o → h'.get? b = some o) (hl : as.length = vs.length) (hG : ∀ (j : Nat) (a : Addr), as[j]? = some a → ∃ key k x, vs[j]? = some (k, x) ∧ (mixKind X.prog X.w).is k key = true ∧ h'.get? a = some { cls := .type "tuple", data := .seq #[key, x] }) :
    ∀ z ∈ (as.map V.ref).zip (kds.map pairD), z.1 = .ref (adr z.1) ∧ Reads h' (.ref (adr z.1)) (toPy z.2) [] := by
  intro z hz
  obtain ⟨j, hj, e⟩ := List.getElem_of_mem hz
  rw [List.getElem_zip] at e
  simp only [List.length_zip, List.length_map] at hj
  have lg : gs.length = vs.length := Paired.length kv
  have lk : gs.length = kds.length := Paired.length h
  have j1 : j < as.length := by omega
  have j2 : j < kds.length := by omega
  have e1 : as[j]? = some as[j] := List.getElem?_eq_getElem j1
  obtain ⟨key, k, x, f1, f2, f3⟩ := hG j _ e1
  have eg : gs[j]? = some gs[j] := List.getElem?_eq_getElem (by omega)
  obtain ⟨y, g1, g2, g3⟩ := LiI.paired_get kv eg
  have ey : y = (k, x) := Option.some.inj (g1.symm.trans f1)
  subst ey
  obtain ⟨kd, q1, q2, q3⟩ := LiI.paired_get h eg
  have ekd : kds[j] = kd := Option.some.inj ((List.getElem?_eq_getElem j2).symm.trans q1)
  simp only [List.getElem_map, ekd] at e
  subst e
  refine ⟨rfl, ?_⟩
  have hmem : kd ∈ kds := List.mem_of_getElem? q1
  have hnk := hI.nk kd hmem
  obtain ⟨bs, rd⟩ := L2.Dp.reads I (toPy kd.2) _ x q3 g3
  have hnk2 : nkOk kd.2 7 = true := by
    simp only [nkOk, nkOks, Bool.and_eq_true] at hnk; exact hnk.2.1
  have ebs := (reads_nk kd.2 7 x bs hnk2 rd).2
  subst ebs
  have rk : RelV (kV k) key := relV_key f2
  have ekk : kd.1 = k := q2.symm.trans g2
  have rkey : Reads h' key (toPy (keyV kd.1)) [] := by
    rw [ekk]
    cases k with
    | inl i => obtain ⟨t, rfl⟩ := rk; exact .int i t
    | inr s => obtain ⟨t, rfl⟩ := rk; exact .str s t
  exact .tuple (as := []) f3 rfl rfl (.cons (as := []) (bs := []) rkey (.cons (as := []) (bs := []) (PyProof.Rows.Reads.keeps hk rd) .nil))
theorem pe_srtIt {e : Expr} {te : TE} {p apos cpos pos : Pos} (hc : X.calm = true) (hu : X.A.units + 64 < cLine) (hg : Gl X "sorted") (hm : X.mg "sorted" = none) (he : PE X e te) (hbase : attributeBase e "items" X.env (eval e X.env) = eval e X.env := by rfl) (hline : (apos.endLine == cpos.line) = true := by rfl) :
    PE X (.Call (.Name "sorted" p) [.Call (.Attribute e "items" apos) [] [] cpos] [] pos) (tSrtIt X.K te) := by
  refine ⟨fun pins s σ H Q I hq => ?_⟩
  refine Call_ (ld_blt I hg hm PyProof.Rows.boot_sorted (PyProof.Rows.callWith_builtin1 (PyProof.Rows.args_cons ?_ rfl) rfl rfl))
  refine wpAny_Call_method (T := "dict") (id := "dict.items") hbase rfl hline F.plainAttrs_dict F.slot_dict_items F.type_dict_items (thn (he.run pins s σ H _ I hq) fun u s1 ⟨x, H1, I1, rx, d, gs, kds, ex, hd, hR, hI, q⟩ => ?_)
  subst ex
  cases rx
  obtain ⟨hz, hs0, vs, kv, hdo⟩ := I1.hok d _ hd
  obtain ⟨ep, hat⟩ := hdo.dictAt
  have lk : gs.length = vs.length := Paired.length kv
  have lk2 : gs.length = kds.length := Paired.length hR
  have I2 : Inv X pins σ H1 { s1 with heap := s1.heap.push { cls := .type "dict_items", data := .fields #[.ref d] } } := I1.kept (t' := s1.toks) fun b ob q => Heap.get?_push_of_some _ q
  refine ⟨hdo.typeIs, hdo.mapOf.noDict, ?_⟩
  show wpAny _ _ (callWith cpos (.builtin "dict.items") [.ref d] [] []) _ X.xe s1
  refine method_meetsIn F.slot_dict_items F.entry_dict_items rfl (PySem.evalArgs_none ⟨rfl, hdo.typeIs, F.args_dict_items_1 _, _, meets_dict_items (mixKind X.prog X.w) d hs0, ⟨vs, hdo⟩, ?_⟩)
  refine PyProof.Rows.args_nil ?_
  refine sorted_tail (by omega) ?_
  refine PySem.W.kdx_collect (knd := mixKind X.prog X.w) (kvs := vs) (ep := ep) (I1.ok.hd hc) ⟨_, Heap.get?_push_size _ rfl, rfl, rfl⟩ (hat.push _) (by omega) fun h' tk as hk hl hG => ?_
  obtain ⟨new, nd, I3⟩ := tups_laid (tk := tk) I2 kv hk hl hG
  have lens : as.length = kds.length := by omega
  have hrd := items_reads I2 kv hR hI hk hl hG.pairs
  have hm2 : ∀ z ∈ (as.map V.ref).zip (kds.map pairD), ∃ kd ∈ kds, z.2 = pairD kd := fun z hz => by
    obtain ⟨kd, h1, h2⟩ := List.mem_map.mp (List.of_mem_zip hz).2
    exact ⟨kd, h1, h2.symm⟩
  refine ⟨(as.map V.ref).zip (kds.map pairD), ?_, fun z hz => (hrd z hz).2, fun x hx y hy => ?_, fun z hz => ?_, fun z hz => ?_, ?_, fun s' c zs k g1 o hg pm hs => ?_⟩
  · have : ∀ (as : List Addr) (ds : List D), as.length = ds.length → as.map Value.ref = ((as.map V.ref).zip ds).map fun z => Value.ref (adr z.1) := by
      intro as
      induction as with
      | nil => intro ds _; simp
      | cons a as ih => intro ds h; cases ds with
        | nil => simp at h
        | cons d ds => simp only [List.map_cons, List.zip_cons_cons]; rw [← ih ds (by simpa using h)]; rfl
    exact this as (kds.map pairD) (by simpa using lens)
  · obtain ⟨k1, m1, e1⟩ := hm2 x hx
    obtain ⟨k2, m2, e2⟩ := hm2 y hy
    rw [e1, e2]; exact hI.al k1 m1 k2 m2
  · obtain ⟨k1, m1, e1⟩ := hm2 z hz
    exact ⟨_, _, e1⟩
  · obtain ⟨k1, m1, e1⟩ := hm2 z hz
    rw [e1]
    exact (toPy_lay (pairD k1) 8 (nk_dok _ _ (hI.nk k1 m1))).2
  · rw [List.length_zip, List.length_map, List.length_map]
    have := hI.few; omega
  · have hn : LiI.putT H1 as gs h'.objs.size = none := I3.hok.fresh (Nat.le_refl _)
    have hzin : ∀ z ∈ zs, z ∈ (as.map V.ref).zip (kds.map pairD) := fun z hz => pm.mem_iff.mp hz
    have hfew : (zs.map (·.1)).length ≤ sizeLine := by
      rw [List.length_map, pm.length_eq, List.length_zip, List.length_map, sizeLine_eq, List.length_map]
      have := hI.few; omega
    have hv : Vals (zs.map (·.1)) (zs.map fun z => Value.ref (adr z.1)) := by
      clear hs pm hg hfew
      induction zs with
      | nil => exact .nil
      | cons z zs ih =>
        refine .cons ?_ (ih fun y hy => hzin y (List.mem_cons_of_mem _ hy))
        have e := (hrd z (hzin z List.mem_cons_self)).1
        show L2.RelV z.1 (Value.ref (adr z.1))
        generalize adr z.1 = b at e ⊢
        rw [e]; rfl
    have J := I3.call' (s' := s') (H' := upd (LiI.putT H1 as gs) h'.objs.size (.lst (zs.map (·.1)))) (ch := []) o (Un.laid k (Nat.le_refl _) hn) (I3.hok.laid k (Nat.le_refl _) ⟨hfew, _, c, hv, hg⟩) (by rw [g1]; exact I3.bare) (fun b z => (List.not_mem_nil z).elim)
    have hpn : h'.objs.size ∉ as := fun z => by
      have := hG.there z
      exact Nat.lt_irrefl _ this
    have hn1 : H1 h'.objs.size = none := by rw [← LiI.putT_off as gs H1 hpn]; exact hn
    exact ⟨.ref _, _, J, rfl, q as zs _ (by omega) nd new hn1 hpn pm hs⟩
theorem frz_tups {K : PySem.W.Frag} {m : Store} : ∀ (as : List Addr) {gs : List (Key × V)} {kds : List (DKey × D)} {B H : Hp}, SRp K B H m → KRel K B gs kds → as.length = gs.length → as.Nodup → (∀ t ∈ as, H t = none) →
    ∃ B', Same B B' ∧ SRp K B' (LiI.putT H as gs) m ∧ Frm B H m B' (LiI.putT H as gs) m ∧ DpAll K B' (as.map V.ref) (kds.map pairD)
  | [], [], _, B, H, S, r, _, _, _ => by
    cases r
    exact ⟨B, Same.refl B, S, Frm.refl, .nil⟩
  | a :: as, g :: gs, kds, B, H, S, r, hl, nd, hn => by
    cases r with
    | cons hp ht =>
      rename_i kd kds
      obtain ⟨n1, n2⟩ := List.nodup_cons.mp nd
      obtain ⟨s1, S1, f1⟩ := S.frz (p := a) (ho := .tup [kV g.1, g.2]) (hn a List.mem_cons_self)
      obtain ⟨B', s2, S2, f2, da⟩ := frz_tups as S1 (paired_mono (fun _ _ z => ⟨z.1, z.2.mono s1⟩) ht) (by simpa using hl) n2 fun t ht => by
        rw [upd_ne (fun z => n1 (by rw [← z]; exact ht))]; exact hn t (List.mem_cons_of_mem _ ht)
      refine ⟨B', s1.trans s2, S2, f1.trans f2, .cons ?_ da⟩
      obtain ⟨k, dv⟩ := kd
      obtain ⟨e1, e2⟩ := hp
      simp only at e1 e2
      refine .tup (.inl (.inl (s2 _ _ upd_same))) (.cons ?_ (.cons (e2.mono (s1.trans s2)) .nil))
      rw [e1]
      cases k with
      | inl i => exact .int i
      | inr s => exact .str s
def wSrtItems (b : Bool) (a : WE) : WE := fun r m R x => a r m (fun u m1 => match u with
  | .ref q => ∃ kds, m1 q = some (.dct kds) ∧ ItemsOk kds ∧ ∀ es : List D, es.Perm (kds.map pairD) → es.Pairwise (fun x y => ltD y x = false) → wNw b es m1 R
  | _ => False) x
theorem pd_srtItems {W : WX} {b : Bool} {e : Expr} {fa : WE} {p apos cpos pos : Pos} (hc : X.calm = true) (hu : X.A.units + 64 < cLine) (hg : Gl X "sorted") (hm : X.mg "sorted" = none) (he : PE X e (up X.K W fa)) (hbase : attributeBase e "items" X.env (eval e X.env) = eval e X.env := by rfl) (hline : (apos.endLine == cpos.line) = true := by rfl) :
    PE X (.Call (.Name "sorted" p) [.Call (.Attribute e "items" apos) [] [] cpos] [] pos) (up X.K W (wSrtItems b fa)) := PE.imp (pe_srtIt hc hu hg hm he hbase hline) fun σ H Q h => by
  obtain ⟨B, ρ, m, R, x, er, S, h, t, tx⟩ := h
  refine ⟨B, ρ, m, _, x, er, S, h, fun B1 d m1 u H1 s1 S1 f1 p1 q1 => ?_, tx⟩
  cases d with
  | ref q =>
    obtain ⟨kds, h1, hI, h2⟩ := q1
    cases p1
    obtain ⟨gs, e1, r1⟩ := S1.dct h1
    have lg : gs.length = kds.length := r1.length
    refine ⟨q, gs, kds, rfl, e1, ?_, hI, fun as zs p hl nd hn hp hpn pm hs => ?_⟩
    · have : ∀ {gs : List (Key × V)} {ks : List (DKey × D)}, KRel X.K B1 gs ks → (∀ k ∈ ks, k ∈ kds) → KRd X.K H1 gs ks := fun {gs ks} r hk => by
        unfold KRel at r
        induction r with
        | nil => exact .nil
        | cons a b ih =>
          rename_i g k gs ks
          refine .cons ⟨a.1, ?_⟩ (ih fun z hz => hk z (List.mem_cons_of_mem _ hz))
          have hnk := hI.nk k (hk k List.mem_cons_self)
          simp only [nkOk, nkOks, Bool.and_eq_true] at hnk
          exact toPy_dp S1.same a.2 (nk_dok _ 7 hnk.2.1)
      exact this r1 fun k hk => hk
    · obtain ⟨B2, s2, S2, f2, da⟩ := frz_tups as S1 r1 hl nd hn
      have hz : DpAll X.K B2 (zs.map (·.1)) (zs.map (·.2)) := zip_dp fun z hz => dp_zip da z (pm.mem_iff.mp hz)
      refine eff_nw S2 (t.step (s1.trans s2) (f1.trans f2)) hz (h2 (zs.map (·.2)) ?_ (List.pairwise_map.mpr hs)) p ?_
      · have := pm.map (·.2)
        rwa [List.map_snd_zip (by simp; omega)] at this
      · rw [LiI.putT_off as gs H1 hpn]; exact hp
  | _ => exact q1.elim
end
end DL
end
section
set_option maxHeartbeats 0
namespace DL
open PySem PySem.Spec PyProof.Rows L2
section
variable {X : Cx} {W : WX} {a b c o e : Expr} {fa fb fc : WE} {pos p apos cpos : Pos} {K : PySem.W.Frag} {B H : Hp} {m : Store}
def NK (K : PySem.W.Frag) (H : Hp) (k : NestedKey) (y : V) : Prop := ∃ B d, Same B H ∧ Dp K B y d ∧ numOk d 8 = true ∧ (∃ z, d = .tup z) ∧ k = toNum d
mutual
theorem nest_is {pins : List (Addr × Obj)} {σ : L2.St} {s : Shared} (I : Inv X pins σ H s) (S : Same B H) : ∀ (d : D) (n : Nat) (v : V) (u : Value), numOk d n = true → Dp X.K B v d → RelV v u → NestedIs s.heap (toNum d) u
  | .bl c, _, _, _, _, .bl _, r => by cases r; exact .bool rfl
  | .int i, _, _, _, _, .int _, r => by obtain ⟨t, rfl⟩ := r; exact .int i t
  | .tup xs, n + 1, _, _, h, .tup (a := q) (xs := vs) hq hs, r => by
    cases r
    obtain ⟨its, rv, ⟨ob, e1, e2, k, e3⟩, hz⟩ := I.tuple (sqT_mono S hq)
    refine .tup e1 e2 e3 ?_
    simpa using nests_are I S xs n vs its (by simpa [numOk] using h) hs rv
  | .tup xs, 0, _, _, h, _, _ => by simp [numOk] at h
  | .non, _, _, _, h, _, _ => by simp [numOk] at h
  | .str _, _, _, _, h, _, _ => by simp [numOk] at h
  | .lst _, _, _, _, h, _, _ => by simp [numOk] at h
  | .ref _, _, _, _, h, _, _ => by simp [numOk] at h
  | .scr _, _, _, _, h, _, _ => by simp [numOk] at h
  | .ty _, _, _, _, h, _, _ => by simp [numOk] at h
theorem nests_are {pins : List (Addr × Obj)} {σ : L2.St} {s : Shared} (I : Inv X pins σ H s) (S : Same B H) : ∀ (ds : List D) (n : Nat) (vs : List V) (us : List Value), numOks ds n = true → DpAll X.K B vs ds → Vals vs us → NestedAll s.heap (toNums ds) us
  | [], _, _, _, _, .nil, r => by cases r; exact .nil
  | d :: ds, n, _, _, h, .cons p ps, r => by
    cases r with
    | cons r rs =>
      have h' : numOk d n = true ∧ numOks ds n = true := by simpa [numOks] using h
      exact .cons (nest_is I S d n _ _ h'.1 p r) (nests_are I S ds n _ _ h'.2 ps rs)
end
theorem nk_is {pins : List (Addr × Obj)} {σ : L2.St} {s : Shared} {k : NestedKey} {y : V} {u : Value} (I : Inv X pins σ H s) (h : NK X.K H k y) (r : RelV y u) : ∃ q, u = .ref q ∧ y = .ref q ∧ (nestedKind X.prog X.w).is s.heap k q := by
  obtain ⟨B, d, S, p, n, ⟨z, rfl⟩, rfl⟩ := h
  have i := nest_is I S _ 8 _ _ n p r
  cases p with
  | tup h1 h2 =>
    cases r
    exact ⟨_, rfl, rfl, i, num_depth _ 8 n⟩
theorem nd_of {pins : List (Addr × Obj)} {σ : L2.St} {s : Shared} {q : Addr} {xs : List (NestedKey × Addr × Value)} (I : Inv X pins σ H s) (h : H q = some (.ext (ndPhi q xs))) (hk : ∀ x ∈ xs, NK X.K H x.1 (.ref x.2.1)) : (q == sysModules) = false ∧ s.heap.DictOfH (nestedKind X.prog X.w) q xs := by
  obtain ⟨⟨h1, h2, ob, es, ep, w, h3, h4, h5, h6⟩, _, _⟩ := (show ObjOk X.prog X.w H s.heap q (.ext (ndPhi q xs)) from I.hok q _ h)
  refine ⟨h1, ob, es, ep, h3, h4, h5, ?_, fun x hx => ?_, h2⟩
  · rw [h6]
    refine List.map_congr_left fun x hx => ?_
    obtain ⟨B, d, _, _, n, _, e⟩ := hk x hx
    show (⟨x.1.hash w, .ref x.2.1, x.2.2⟩ : DictEntry) = ⟨x.1.hash X.w, .ref x.2.1, x.2.2⟩
    rw [e, num_hash w X.w d 8 n]
  · obtain ⟨q', e1, e2, i⟩ := nk_is I (hk x hx) (u := .ref x.2.1) rfl
    cases e2
    exact i
theorem nd_new {P : Program} {w : World} {H' : Hp} {h' : Heap} {q : Addr} {xs : List (NestedKey × Addr × Value)} (hd : (q == sysModules) = false) (dd : h'.DictOfH (nestedKind P w) q xs) : ObjOk P w H' h' q (.ext (ndPhi q xs)) := by
  obtain ⟨ob, es, ep, h3, h4, h5, h6, h7, h8⟩ := dd
  refine ⟨⟨hd, h8, ob, es, ep, w, h3, h4, h5, h6⟩, ⟨ob, h3⟩, fun h1 h2 hp hk => ?_⟩
  obtain ⟨a1, a2, ob', es', ep', w', a3, a4, a5, a6⟩ := hp
  exact ⟨a1, a2, ob', es', ep', w', hk _ a3, a4, a5, a6⟩
def lookN : List (D × D) → D → Option D
  | [], _ => none
  | x :: r, k => if eqD x.1 k = true then some x.2 else lookN r k
theorem nd_look {xs : List (NestedKey × Addr × Value)} {kvs : List (D × D)} {k : D} (hk : numOk k 8 = true) (h : Paired (NdR K B) xs kvs) : (lookN kvs k = none → atKey xs (toNum k) = none) ∧ ∀ d, lookN kvs k = some d → ∃ q v w, atKey xs (toNum k) = some (q, v) ∧ Dp K B w d ∧ RelV w v := by
  induction h with
  | nil => exact ⟨fun _ => rfl, fun d h => nomatch h⟩
  | cons h t ih =>
    rename_i x kd xs kvs
    obtain ⟨e, n, _, _, v, p, r⟩ := h
    have eq := num_eq kd.1 k 8 8 n hk
    rw [← e] at eq
    unfold lookN
    cases hq : eqD kd.1 k with
    | true =>
      rw [hq] at eq
      have a1 : atKey (x :: xs) (toNum k) = some x.2 := by unfold atKey; rw [List.find?_cons, eq]; rfl
      refine ⟨fun z => by simp at z, fun d z => ?_⟩
      simp at z
      subst z
      exact ⟨x.2.1, x.2.2, v, a1, p, r⟩
    | false =>
      rw [hq] at eq
      have a1 : atKey (x :: xs) (toNum k) = atKey xs (toNum k) := by unfold atKey; rw [List.find?_cons, eq]
      rw [a1]
      simpa using ih
theorem paired_app {α β : Type} {F : α → β → Prop} : ∀ {xs xs' : List α} {ys ys' : List β}, Paired F xs ys → Paired F xs' ys' → Paired F (xs ++ xs') (ys ++ ys')
  | _, _, _, _, .nil, h => h
  | _, _, _, _, .cons h t, h' => .cons h (paired_app t h')
theorem nd_keys (S : Same B H) {xs : List (NestedKey × Addr × Value)} {kvs : List (D × D)} (h : Paired (NdR K B) xs kvs) : ∀ x ∈ xs, NK K H x.1 (.ref x.2.1) := by
  induction h with
  | nil => intro x hx; cases hx
  | cons h t ih =>
    intro x hx
    rcases List.mem_cons.mp hx with e | hx
    · subst e
      exact ⟨B, _, S, h.2.2.2.1, h.2.1, h.2.2.1, h.1⟩
    · exact ih x hx
theorem SRp.dntE {q : Addr} {kvs : List (D × D)} (S : SRp K B H m) {b : Addr} (h : m q = some (.dnt b kvs)) : ∃ xs, H q = some (.ext (ndPhi b xs)) ∧ Paired (NdR K B) xs kvs := by
  obtain ⟨_, ho, h1, h2⟩ := S.obj _ _ h
  cases ho with
  | ext φ => obtain ⟨xs, e1, e2⟩ := h2; subst e1; exact ⟨xs, h1, e2⟩
  | _ => exact h2.elim
def wNGet : W2 := fun d k m R => match d with
  | .ref a => ∃ kvs, m a = some (.dnt a kvs) ∧ numOk k 8 = true ∧ (∃ z, k = .tup z) ∧ ok (lookN kvs k) fun v => R v m
  | _ => False
def tNGet (K : PySem.W.Frag) (td ty : TE) : TE := fun σ H Q => td σ H fun x H1 => ty σ H1 fun y H2 => ∃ a xs k p v, x = .ref a ∧ H2 a = some (.ext (ndPhi a xs)) ∧ (∀ x ∈ xs, NK K H2 x.1 (.ref x.2.1)) ∧ NK K H2 k y ∧ atKey xs k = some p ∧ RelV v p.2 ∧ Q v H2
theorem pe_nget {td ty : TE} (hu : X.A.units + 64 < cLine) (ho : PE X a td) (hi : PE X b ty) (hs : NoSl b) : PE X (.Subscript a b pos) (tNGet X.K td ty) := by
  refine ⟨fun pins s σ H Q I h => ?_⟩
  refine subD_of PySem.F.slot_dict_getitem.lookup hs (thn (ho.run pins s σ H _ I h) fun u s1 ⟨x, H1, I1, rx, q1⟩ => thn (hi.run pins s1 σ H1 _ I1 q1) fun iv s2 ⟨y, H2, I2, ry, a, xs, k, p, v, ex, g1, g2, g3, g4, g5, q2⟩ => ?_)
  subst ex
  obtain rfl : u = Value.ref a := rx
  obtain ⟨hd, dd⟩ := nd_of I2 g1 g2
  obtain ⟨q, rfl, rfl, i⟩ := nk_is I2 g3 ry
  exact ⟨dd.typeIs, wpAny_getItem_heap (knd := nestedKind X.prog X.w) (show X.A.in1.units + 8 < cLine by rw [Around.in1_units]; omega) i dd g4 ⟨v, H2, I2.tok _, g5, q2⟩⟩
theorem pd_nget (hu : X.A.units + 64 < cLine) (ho : PE X a (up X.K W fa)) (hi : PE X b (up X.K W fb)) (hs : NoSl b) : PE X (.Subscript a b pos) (up X.K W (wOp wNGet fa fb)) := PE.imp (pe_nget hu ho hi hs) fun σ H Q h => by
  refine two_up (r := fun x y H Q => ∃ a xs k p v, x = .ref a ∧ H a = some (.ext (ndPhi a xs)) ∧ (∀ x ∈ xs, NK X.K H x.1 (.ref x.2.1)) ∧ NK X.K H k y ∧ atKey xs k = some p ∧ RelV v p.2 ∧ Q v H) (fun B u v d e p q H m R Q S h t => ?_) h
  cases p with
  | ref a =>
    obtain ⟨kvs, hk, hn, hz, h⟩ := h
    obtain ⟨z, h2, h⟩ := ok_iff.mp h
    obtain ⟨xs, e1, e2⟩ := S.dntE hk
    obtain ⟨q', v', w', a1, a2, a3⟩ := (nd_look hn e2).2 z h2
    exact ⟨a, xs, _, _, w', rfl, e1, nd_keys S.same e2, ⟨B, e, S.same, q, hn, hz, rfl⟩, a1, a3, eff_ret S t a2 h⟩
  | _ => exact h.elim
def wNNotIn : W2 := fun k d m R => match d with
  | .ref a => ∃ kvs, m a = some (.dnt a kvs) ∧ numOk k 8 = true ∧ (∃ z, k = .tup z) ∧ R (.bl (!(lookN kvs k).isSome)) m
  | _ => False
theorem notinN_ (hu : X.A.units + 64 < cLine) : OpD X (compareOp .NotIn) wNNotIn := by
  refine ⟨fun y x H Q => ∃ a xs k, x = .ref a ∧ H a = some (.ext (ndPhi a xs)) ∧ (∀ x ∈ xs, NK X.K H x.1 (.ref x.2.1)) ∧ NK X.K H k y ∧ Q (.bl (!(atKey xs k).isSome)) H, ?_, fun B u v d e p q H m R Q S h t => ?_⟩
  · intro pins s σ H y x u v Q I ry rx h
    obtain ⟨a, xs, k, rfl, g1, g2, g3, h⟩ := h
    obtain rfl : v = Value.ref a := rx
    obtain ⟨hd, dd⟩ := nd_of I g1 g2
    obtain ⟨q, rfl, rfl, i⟩ := nk_is I g3 ry
    exact wpAny_notIn_heap (knd := nestedKind X.prog X.w) (show X.A.in1.units + 8 < cLine by rw [Around.in1_units]; omega) i hd dd ⟨.bl _, H, I.tok _, rfl, h⟩
  · cases q with
    | ref a =>
      obtain ⟨kvs, hk, hn, hz, h⟩ := h
      obtain ⟨xs, e1, e2⟩ := S.dntE hk
      refine ⟨a, xs, _, rfl, e1, nd_keys S.same e2, ⟨B, d, S.same, p, hn, hz, rfl⟩, ?_⟩
      have : (atKey xs (toNum d)).isSome = (lookN kvs d).isSome := by
        cases z : lookN kvs d with
        | none => rw [(nd_look hn e2).1 z]; rfl
        | some w => obtain ⟨_, _, _, a1, _⟩ := (nd_look hn e2).2 w z; rw [a1]; rfl
      rw [this]
      exact eff_ret S t (.bl _) h
    | _ => exact h.elim
def wNPut (d k v : WE) : WS := fun r m c => v r m (fun y m1 => d r m1 (fun u m2 => k r m2 (fun q m3 => match u with
  | .ref a => ∃ kvs, m3 a = some (.dnt a kvs) ∧ kvs.length < LIM ∧ numOk q 8 = true ∧ (∃ z, q = .tup z) ∧ lookN kvs q = none ∧ c.nx r (sup m3 a (.dnt a (kvs ++ [(q, y)])))
  | _ => False) c.ex) c.ex) c.ex
def rSetN (K : PySem.W.Frag) : V → V → V → Hp → (Hp → Prop) → Prop := fun o i v H Q => ∃ a b xs k, o = .ref a ∧ i = .ref b ∧ H a = some (.ext (ndPhi a xs)) ∧ (∀ x ∈ xs, NK K H x.1 (.ref x.2.1)) ∧ NK K H k i ∧ xs.length ≤ sizeLine ∧ atKey xs k = none ∧ ∀ r, RelV v r → Q (upd H a (.ext (ndPhi a (xs ++ [(k, b, r)]))))
theorem set_nest (hu : X.A.units + 64 < cLine) : PSet X (rSetN X.K) := by
  intro pins s σ H o i v ov iv u Q I ro ri rv h
  obtain ⟨a, b, xs, k, rfl, rfl, g1, g2, g3, g4, g5, h⟩ := h
  cases ro
  obtain ⟨hd, dd⟩ := nd_of I g1 g2
  obtain ⟨q, rfl, e, i⟩ := nk_is I g3 ri
  cases e
  refine wpAny_setItem_heap (knd := nestedKind X.prog X.w) (show X.A.in1.units + 8 < cLine by rw [Around.in1_units]; omega) i dd (fun h' dd' hs => ?_) (hsz := g4)
  rw [storedH_new g5] at dd'
  have he : ∃ q, h'.get? a = some q := let ⟨q, _, _, hq, _⟩ := dd'; ⟨q, hq⟩
  exact ⟨_, d_write I (by rw [g1]; exact True.intro) hs he (nd_new hd dd'), h u rv⟩
theorem psd_nput {pos' : Pos} (hu : X.A.units + 64 < cLine) (ho : PE X a (up X.K W fa)) (hi : PE X b (up X.K W fb)) (hv : PE X c (up X.K W fc))
    (ha : ∀ v, assign (.Subscript a b pos') X.env v = (do
      let ov ← holding [v] (eval a X.env)
      let iv ← holding [v, ov] (eval b X.env)
      standAt pos'
      holding [v, ov, iv] (setItem ov iv v)
      release [v, ov, iv] []) := by intro _; rfl)
    (hs : swapsWithSole [.Subscript a b pos'] c pos.line X.env = pure false := by rfl) (hw : swappedStores [.Subscript a b pos'] c X.env = pure none := by rfl)
    (h1 : (assignEach [.Subscript a b pos'] X.env).map (·.2) = [assign (.Subscript a b pos') X.env] := by rfl) :
    PS X (.Assign [.Subscript a b pos'] c pos) (upS X.K W (wNPut fa fb fc)) := PS.imp (ps_asg hv (pg_sub ho hi (set_nest hu) ha) hs hw h1) fun E σ H ⟨B, r, m, k, er, S, h, t⟩ => by
  refine ⟨B, r, m, _, _, er, S, h, fun B1 d m1 u H1 s1 S1 f1 p1 q1 => ?_, t.x er⟩
  refine ⟨B1, r, m1, _, _, er.mono s1, S1, q1, fun B2 e m2 v H2 s2 S2 f2 p2 q2 => ?_, (t.x er).step s1 f1⟩
  refine ⟨B2, r, m2, _, _, er.mono (s1.trans s2), S2, q2, fun B3 g m3 y H3 s3 S3 f3 p3 q3 => ?_, (t.x er).step (s1.trans s2) (f1.trans f2)⟩
  match e, q3 with
  | .ref q, q3 =>
    obtain ⟨kvs, hx, hl, hn, hz, hf, h⟩ := q3
    cases p2
    obtain ⟨xs, e1, rel⟩ := S3.dntE hx
    have a1 := (nd_look hn rel).1 hf
    obtain ⟨z, rfl⟩ := hz
    cases p3 with
    | tup hq hs' =>
      rename_i b vs
      refine ⟨q, b, xs, _, rfl, rfl, e1, nd_keys S3.same rel, ⟨B3, .tup z, S3.same, .tup hq hs', hn, ⟨z, rfl⟩, rfl⟩, by rw [← LIM_eq, Paired.length rel]; exact Nat.le_of_lt hl, a1, fun r' rv => ?_⟩
      have rel2 : Paired (NdR X.K B3) (xs ++ [(toNum (.tup z), b, r')]) (kvs ++ [(.tup z, d)]) := paired_app rel (.cons ⟨rfl, hn, ⟨z, rfl⟩, .tup hq hs', u, p1.mono (s2.trans s3), rv⟩ .nil)
      obtain ⟨S4, f4⟩ := S3.put (ho := .ext (ndPhi q (xs ++ [(toNum (.tup z), b, r')]))) (mo := .dnt q (kvs ++ [(.tup z, d)])) hx ⟨_, rfl, rel2⟩
      exact t.nx B3 σ r _ _ ((s1.trans s2).trans s3) S4 (((f1.trans f2).trans f3).trans f4) (er.mono ((s1.trans s2).trans s3)) h
def wNDisp (fa fb : WE) : WE := fun r m R x => fa r m (fun k m1 => fb r m1 (fun v m2 => numOk k 8 = true ∧ (∃ z, k = .tup z) ∧ ∀ a, m2 a = none → R (.ref a) (sup m2 a (.dnt a [(k, v)]))) x) x
def tNDisp (K : PySem.W.Frag) (ta tb : TE) : TE := fun σ H Q => ∀ p, H p = none → ta σ (upd H p (.dK [])) fun x H1 => tb σ H1 fun y H2 => ∃ x' y', [(x, y)] = [(x', y')] ∧ H2 p = some (.dK []) ∧ ∃ k b, x' = .ref b ∧ NK K H2 k x' ∧ ∀ r, RelV y' r → Q (.ref p) (upd H2 p (.ext (ndPhi p [(k, b, r)])))
theorem pe_ndisp {ta tb : TE} (hu : X.A.units + 64 < cLine) (ha : PE X a ta) (hb : PE X b tb) : PE X (.Dict [some a] [b] pos) (tNDisp X.K ta tb) := by
  refine ⟨fun pins s σ H Q I q => ?_⟩
  have hn := I.hok.fresh (Nat.le_refl s.heap.objs.size)
  have I1 := I.laid (a := s.heap.objs.size) (o := .dK []) (h' := s.heap.push { cls := .type "dict", data := .dict #[] }) (t' := s.toks) (fun _ _ q => Heap.get?_push_of_some _ q) (Nat.le_refl _) (dk_empty s.heap I.big)
  have pr : PPs X pos [some a] [b] [(ta, tb)] := pps_cons ha hb pps_nil
  rw [arm_eval_Dict, zip_pairTrees [some a] [b] X.env pos rfl rfl, dictDisplay_pairs (pairTrees [some a] [b] X.env pos) (by simp [pairTrees]) (by simp [pairTrees])]
  refine wpAny_bind (wpAny_standAt (wpAny_bind (wpAny_subDictH (knd := nestedKind X.prog X.w) (Q := fun d s' => wpAny (model X.prog X.w) X.A (pure (Value.ref d)) _ X.xe s') (show X.A.units + 8 < cLine by omega) (by simp [pairTrees]) ?_)))
  have q' := q _ hn
  refine thn (pr.run pins _ σ _ (fun ps H2 => ∃ x y, ps = [(x, y)] ∧ H2 s.heap.objs.size = some (.dK []) ∧ ∃ k b, x = .ref b ∧ NK X.K H2 k x ∧ ∀ r, RelV y r → Q (.ref s.heap.objs.size) (upd H2 s.heap.objs.size (.ext (ndPhi s.heap.objs.size [(k, b, r)])))) I1 ?_) fun ws s2 ⟨ps, H2, I2, rel, x, y, ep, e, k, b, ex, nk, q2⟩ => ?_
  · exact q'
  · subst ep ex
    cases rel with
    | @cons _ w _ _ r1 r2 =>
      cases r2
      obtain ⟨w1, w2⟩ := w
      obtain ⟨b', e1, e2, i⟩ := nk_is I2 nk (u := w1) r1.1
      cases e2
      subst e1
      obtain ⟨z, hd, vs0, r0, dd⟩ := dk_of I2.hok e
      cases r0
      refine ⟨[(k, b, w2)], ⟨rfl, rfl, i, trivial⟩, ?_, fun h' tk dd' hs => wpAny_pure ⟨.ref s.heap.objs.size, _, ?_, rfl, q2 w2 r1.2⟩⟩
      · obtain ⟨o, es, ep, a1, a2, a3, a4, a5, a6⟩ := dd
        have a7 : es.toList = [] := by cases q7 : es.toList with
          | nil => rfl
          | cons x y => rw [q7] at a5; cases a5
        exact ⟨o, es, ep, a1, a2, a3, by simpa using a7, fun x hx => by simp at hx, List.nodup_nil⟩
      · have he : ∃ q, h'.get? s.heap.objs.size = some q := let ⟨q, _, _, hq, _⟩ := dd'; ⟨q, hq⟩
        have dd'' : h'.DictOfH (nestedKind X.prog X.w) s.heap.objs.size [(k, b, w2)] := by simpa [storedAllH, storedH, atKey] using dd'
        exact d_write I2 (by rw [e]; exact True.intro) hs he (nd_new hd dd'')
theorem pd_ndisp (hu : X.A.units + 64 < cLine) (ha : PE X a (up X.K W fa)) (hb : PE X b (up X.K W fb)) : PE X (.Dict [some a] [b] pos) (up X.K W (wNDisp fa fb)) := PE.imp (pe_ndisp hu ha hb) fun σ H Q h => by
  obtain ⟨B, ρ, m, R, x, er, S, h, t, tx⟩ := h
  intro q nq
  obtain ⟨S1, f1⟩ := S.free (ho := .dK []) nq
  have hB : B q = none := by
    cases z : B q with
    | none => rfl
    | some o => rw [S.same _ _ z] at nq; cases nq
  have hm : m q = none := by
    cases z : m q with
    | none => rfl
    | some o => obtain ⟨_, ho', z1, _⟩ := S.obj _ _ z; rw [z1] at nq; cases nq
  refine ⟨B, ρ, m, _, x, er, S1, h, fun B1 d m1 u H1 s1 S1 f1' p1 q1 => ?_, tx.step (Same.refl B) f1⟩
  refine ⟨B1, ρ, m1, _, x, er.mono s1, S1, q1, fun B2 e m2 v H2 s2 S2 f2 p2 q2 => ?_, (tx.step (Same.refl B) f1).step s1 f1'⟩
  obtain ⟨hn, hz, q2⟩ := q2
  obtain ⟨z, rfl⟩ := hz
  have f3 := f1'.trans f2
  have hq : H2 q = some (.dK []) := f3.keep q _ upd_same hm
  have mq : m2 q = none := f3.out q _ upd_same hm
  have bq : B2 q = none := f3.bout q _ upd_same hm hB
  cases p1 with
  | tup hq' hs' =>
    rename_i b vs
    have pk : Dp X.K B2 (.ref b) (.tup z) := (Dp.tup hq' hs').mono s2
    refine ⟨.ref b, v, rfl, hq, toNum (.tup z), b, rfl, ⟨B2, .tup z, S2.same, pk, hn, ⟨z, rfl⟩, rfl⟩, fun r rv => ?_⟩
    have rel2 : Paired (NdR X.K B2) [(toNum (.tup z), b, r)] [(.tup z, e)] := .cons ⟨rfl, hn, ⟨z, rfl⟩, pk, v, p2, rv⟩ .nil
    have S4 : SRp X.K B2 (upd H2 q (.ext (ndPhi q [(toNum (.tup z), b, r)]))) (sup m2 q (.dnt q [(.tup z, e)])) := by
      refine ⟨fun c o z1 => ?_, fun c mo z1 => ?_⟩
      · rw [upd_ne (ne_of_none z1 bq)]; exact S2.same _ _ z1
      · by_cases hc : c = q
        · subst hc
          rw [sup_same] at z1
          cases z1
          exact ⟨bq, _, upd_same, _, rfl, rel2⟩
        · rw [sup_ne hc] at z1
          obtain ⟨b1, ho', e1, r1⟩ := S2.obj c mo z1
          exact ⟨b1, ho', by rw [upd_ne hc]; exact e1, r1⟩
    have F : Frm B H m B2 (upd H2 q (.ext (ndPhi q [(toNum (.tup z), b, r)]))) (sup m2 q (.dnt q [(.tup z, e)])) := by
      have f4 := f1.trans f3
      exact ⟨fun c o z1 n => by rw [upd_ne (ne_of_none z1 nq)]; exact f4.keep c o z1 n, fun c o z1 n => by rw [sup_ne (ne_of_none z1 nq)]; exact f4.out c o z1 n, f4.bout⟩
    exact t B2 _ _ _ _ (s1.trans s2) S4 F (.ref q) (q2 q mq)
end
end DL
end
section
set_option maxHeartbeats 0
namespace DL
open PySem PySem.Spec PyProof.Rows L2
def gTn (i : Nat) (is : List Nat) : WG := fun u r m K => match u with | .tup [d, .tup ds] => ds.length = is.length ∧ K (putAll (put r i (some d)) is ds) m | _ => False
theorem g_tn {K : PySem.W.Frag} (i : Nat) (is : List Nat) : upG K (gTn i is) (gTup K 2 (gCons (gName i) (gCons (gTup K is.length (gNames is)) gNil))) := fun B v d σ r H m Kd Q er S p h q => by
  match d, h with
  | .tup [d1, .tup ds], h =>
    cases p with
    | tup hs hp =>
      cases hp with
      | cons p1 hp => cases hp with
        | cons p2 hp => cases hp with
          | nil => cases p2 with
            | tup hs2 hp2 =>
              refine ⟨_, _, rfl, sqT_mono S.same hs, rfl, ⟨_, _, rfl, ?_⟩⟩
              refine ⟨_, _, rfl, ?_⟩
              refine ⟨_, _, rfl, sqT_mono S.same hs2, hp2.length.trans h.1, gNames_ok is _ _ _ _ (er.set i p1) hp2 h.1 fun σ' er' => ?_⟩
              exact ⟨rfl, q B σ' _ m H (Same.refl B) S Frm.refl er' h.2⟩
def rgD (n : Nat) : List D := (List.range n).map fun i => .int (i : Nat)
def wTupRg (a : WE) : WE := fun r m R x => a r m (fun u m1 => match u with | .int n => 0 ≤ n ∧ n ≤ 1000000 ∧ R (.tup (rgD n.toNat)) m1 | _ => False) x
theorem dp_rg {K : PySem.W.Frag} {B : Hp} (n : Int) : DpAll K B (rgV 0 n) (rgD n.toNat) := by
  unfold rgV rgD
  have e : (n - 0).toNat = n.toNat := by rw [Int.sub_zero]
  rw [e]
  generalize List.range n.toNat = l
  induction l with
  | nil => exact .nil
  | cons i l ih => exact .cons (by show Dp K B (V.int (0 + (i : Nat))) (D.int (i : Nat)); rw [Int.zero_add]; exact .int _) ih
theorem pd_tupRg {X : Cx} {W : WX} {a : Expr} {fa : WE} {p p2 q pos : Pos} (hc : X.calm = true) (hg : Gl X "tuple") (hm : X.mg "tuple" = none) (hg2 : Gl X "range") (hm2 : X.mg "range" = none) (ha : PE X a (up X.K W fa))
    (na : starEach [a] X.env = (false, eval a X.env) :: starEach [] X.env := by rfl) (nb : starEach [.Call (.Name "range" p2) [a] [] q] X.env = (false, eval (.Call (.Name "range" p2) [a] [] q) X.env) :: starEach [] X.env := by rfl) :
    PE X (.Call (.Name "tuple" p) [.Call (.Name "range" p2) [a] [] q] [] pos) (up X.K W (wTupRg fa)) := PE.imp (pe_tupRg hc hg hm (prg_1 hg2 hm2 ha na) nb) fun σ H Q h => by
  obtain ⟨B, ρ, m, R, x, er, S, h, t, tx⟩ := h
  refine ⟨B, ρ, m, _, x, er, S, h, fun B1 d m1 u H1 s1 S1 f1 p1 q1 => ?_, tx⟩
  match d, q1 with
  | .int n, q1 =>
    obtain ⟨h1, h2, h3⟩ := q1
    cases p1
    refine ⟨n, rfl, RgOk.of_le (by omega) (by omega) (by omega) h1, eff_tup S1 (t.step s1 f1) (dp_rg n) h3⟩
end DL
end
section
set_option maxHeartbeats 0
namespace DL
open PySem PySem.Spec PyProof.Rows L2
section
variable {prog : Program} {w : World} {A : Around} {E : Value → Shared → Prop} {s : Shared}
theorem rev_adjust (n : Nat) : Builtin.Slice.sliceAdjust none none (-1) (n : Int) = ((n : Int) - 1, -1) := by
  unfold Builtin.Slice.sliceAdjust
  simp
theorem rev_places (n : Nat) : Builtin.Slice.slicePlaces ((n : Int) - 1) (-1) (-1) = n := by
  unfold Builtin.Slice.slicePlaces
  have h1 : ¬ ((-1 : Int) > 0) := by omega
  simp only [h1, if_false]
  simp only [Int.neg_neg, Int.ediv_one]
  split <;> omega
theorem rev_pick (xs : Array Value) : ((List.range xs.size).filterMap fun (m : Nat) => xs[((xs.size : Int) - 1 + (m : Int) * (-1)).toNat]?).toArray = xs.toList.reverse.toArray := by
  congr 1
  have e : (List.range xs.size).filterMap (fun (m : Nat) => xs[((xs.size : Int) - 1 + (m : Int) * (-1)).toNat]?) = (List.range xs.size).filterMap (fun m => xs.toList.reverse[m]?) := by
    have cg : ∀ (l : List Nat) (f g : Nat → Option Value), (∀ m ∈ l, f m = g m) → l.filterMap f = l.filterMap g := fun l f g => by
      induction l with
      | nil => exact fun _ => rfl
      | cons a l ih => exact fun h => by rw [List.filterMap_cons, List.filterMap_cons, h a List.mem_cons_self, ih fun m hm => h m (List.mem_cons_of_mem _ hm)]
    refine cg _ _ _ fun m hm => ?_
    have hm' : m < xs.size := List.mem_range.mp hm
    have e1 : ((xs.size : Int) - 1 + (m : Int) * (-1)).toNat = xs.size - 1 - m := by omega
    rw [e1, List.getElem?_reverse (by simpa using hm'), ← Array.getElem?_toList, Array.length_toList]
  rw [e]
  have key : ∀ (l : List Value) (n : Nat), n ≤ l.length → (List.range n).filterMap (fun m => l[m]?) = l.take n := by
    intro l n
    induction n with
    | zero => intro _; simp
    | succ n ih =>
      intro hn
      rw [List.range_succ, List.filterMap_append, ih (by omega), List.filterMap_cons_some (List.getElem?_eq_getElem (show n < l.length by omega)), List.take_succ, List.getElem?_eq_getElem (show n < l.length by omega)]; rfl
  have h := key xs.toList.reverse xs.size (by simp)
  rw [h, List.take_of_length_le (by simp)]
theorem getItem_tuple_rev {t sl : Addr} {items : Array Value} {vl vu vs : Value} {Q : Value → Shared → Prop} (ht : IsTup s.heap t items) (hs : s.heap.IsSliceOf sl vl vu vs) (pl : IsPart vl none) (pu : IsPart vu none) (ps : IsPart vs (some (-1)))
    (h : Q (.ref s.heap.objs.size) { s with heap := s.heap.push { cls := .type "tuple", data := .seq items.toList.reverse.toArray } }) (hsz : items.size ≤ sizeLine) : wpAny (model prog w) A (getItem (.ref t) (.ref sl)) Q E s := by
  have htake : sizeOk (.seq items.toList.reverse.toArray) := by
    show items.toList.reverse.toArray.size ≤ sizeLine
    rw [List.size_toArray, List.length_reverse, Array.length_toList]; exact hsz
  obtain ⟨os, hos, hcs, hds⟩ := id hs
  unfold getItem
  try with_reducible refine wpAny_holding ?_
  first | refine wpAny_bind (wpAny_pure ?_) | skip
  refine wpAny_bind (wpAny_sequenceKey ht.typeIs (by decide) ?_)
  refine wpAny_bind (wpAny_callSpecial?_slot (name := Str.ofString "__getitem__") ht.typeIs PyProof.Rows.slot_tuple_getitem
    (wpAny_call_entry PyProof.Rows.slot_tuple_getitem ht.typeIs entry_tuple_getitem ?_ (args_tuple_getitem _ _)))
  show wpAny _ _ (Builtin.Tuple.tupleItemsOf (.ref t) >>= _) _ _ s
  refine wpAny_bind (tupleItemsOf_ ht ?_)
  refine wpAny_bind (wpAny_typeOf ⟨os, hos, hcs⟩ ?_)
  rw [if_pos (by decide)]
  have ap : ∀ (K : Int × Int × Nat → Shared → Prop), K ((items.size : Int) - 1, -1, items.size) s → wpAny (model prog w) A.in1 (Builtin.Slice.sliceApplied (.ref sl) (pure (items.size : Int))) K E s := fun K hK => by
    unfold Builtin.Slice.sliceApplied Builtin.Slice.sliceFields
    refine wpAny_bind (wpAny_bind (wpAny_field hos hds (x := vl) rfl (wpAny_bind (wpAny_field hos hds (x := vu) rfl (wpAny_bind (wpAny_field hos hds (x := vs) rfl (wpAny_pure ?_)))))))
    refine wpAny_bind (HT.slicePart_ ps ?_)
    show wpAny _ _ (if ((-1 : Int) == 0) = true then _ else _) _ _ s
    rw [if_neg (by decide)]
    refine wpAny_bind (HT.slicePart_ pl (wpAny_bind (HT.slicePart_ pu (wpAny_bind (wpAny_pure ?_)))))
    show wpAny _ _ (match Builtin.Slice.sliceAdjust none none (-1) (items.size : Int) with | (lo, hi) => pure (lo, (-1 : Int), Builtin.Slice.slicePlaces lo hi (-1))) _ _ s
    rw [rev_adjust]
    show wpAny _ _ (pure ((items.size : Int) - 1, (-1 : Int), Builtin.Slice.slicePlaces ((items.size : Int) - 1) (-1) (-1))) _ _ s
    rw [rev_places]
    exact wpAny_pure hK
  refine wpAny_bind (ap _ ?_)
  show wpAny _ _ (if (((items.size : Int) - 1) == 0 && (-1 : Int) == 1 && items.size == items.size) = true then _ else _) _ _ s
  rw [if_neg (by simp), rev_pick]
  first
    | exact wpAny_bind (m := Builtin.Tuple.tupleExact _) (wpAny_newObj_type (wpAny_pure ⟨_, rfl, wpAny_pure h⟩) htake)
    | exact wpAny_bind (m := Builtin.Tuple.tupleExact _) (wpAny_newObj_type (wpAny_bind (wpAny_pure (wpAny_pure ⟨_, rfl, wpAny_pure h⟩))) htake)
    | exact wpAny_bind (wpAny_bind (m := Builtin.Tuple.tupleExact _) (wpAny_newObj_type (wpAny_pure (wpAny_pure ⟨_, rfl, wpAny_pure h⟩)) htake))
    | exact wpAny_bind (wpAny_bind (m := Builtin.Tuple.tupleExact _) (wpAny_newObj_type (wpAny_pure ⟨_, rfl, wpAny_pure h⟩) htake))
end
section
variable {X : Cx} {W : WX} {a : Expr} {fa : WE}
def tRevT (K : PySem.W.Frag) (te : TE) : TE := fun σ H Q => te σ H fun x H1 => ∃ a xs, x = .ref a ∧ SqT K H1 a xs ∧ ∀ p, H1 p = none → Q (.ref p) (upd H1 p (.tup xs.reverse))
theorem pe_revT {e : Expr} {te : TE} {k : Nat} {p1 p2 p3 pos : Pos} (he : PE X e te) : PE X (.Subscript e (.Slice none none (some (.UnaryOp .USub (.Constant (.int 1) k p1) p2)) p3) pos) (tRevT X.K te) := by
  refine ⟨fun pins s σ H Q I h => ?_⟩
  refine Subscript_ (thn (he.run pins s σ H _ I h) fun v s1 ⟨x, H1, I1, r1, q1⟩ => ?_)
  obtain ⟨b, xs, rfl, hx, q⟩ := q1
  cases r1
  have hst : PO X (some (.UnaryOp .USub (.Constant (.int 1) k p1) p2)) (tPart (tUn (rU fun i => .int (-i)) (tC (.int 1)))) := po_some (pe_un un_neg pe_int)
  refine wpAny_Slice (thn (po_none.run pins s1 σ H1 (fun o H2 => o = none ∧ H2 = H1) I1 ⟨rfl, rfl⟩) fun vl s2 ⟨l, H2, I2, pl, el, e2⟩ => ?_)
  subst el e2
  refine thn (po_none.run pins s2 σ H2 (fun o H3 => o = none ∧ H3 = H2) I2 ⟨rfl, rfl⟩) fun vu s3 ⟨u, H3, I3, pu, eu, e3⟩ => ?_
  subst eu e3
  refine thn (hst.run pins s3 σ H3 (fun o H4 => o = some (-1) ∧ H4 = H3) I3 ⟨1, rfl, -1, rfl, rfl, rfl⟩) fun vs s4 ⟨o, H4, I4, ps, eo, e4⟩ => ?_
  subst eo e4
  have I5 : Inv X pins σ H4 { s4 with heap := s4.heap.push { cls := .type "slice", data := .fields #[vl, vu, vs] } } := I4.kept (t' := s4.toks) fun b ob q => Heap.get?_push_of_some _ q
  obtain ⟨its, r, ht, hz⟩ := I5.tuple hx
  have hlen := r.length
  show wpAny (model X.prog X.w) X.A (subscriptTail e (.Slice none none (some (.UnaryOp .USub (.Constant (.int 1) k p1) p2)) p3) (.ref b) (.ref s4.heap.objs.size)) (EP X pins σ Q) X.xe { s4 with heap := s4.heap.push { cls := .type "slice", data := .fields #[vl, vu, vs] } }
  refine tail_any (ops := [.ref b, .ref s4.heap.objs.size]) ht.typeIs (PyProof.Rows.slot_tuple_getitem.lookup) ?_ (by with_unfolding_all rfl)
  refine getItem_tuple_rev ht (Heap.IsSliceOf.new _ vl vu vs) pl pu ps ?_ (by rw [List.size_toArray]; omega)
  refine ⟨.ref _, _, I5.laid (t' := s4.toks) (o := .tup xs.reverse) (fun b ob q => Heap.get?_push_of_some _ q) (Nat.le_refl _) ?_, rfl, q _ (I5.hok.fresh (Nat.le_refl _))⟩
  exact ⟨by rw [List.length_reverse]; exact hz, _, r.reverse, IsTup.new _ _⟩
theorem DpAll.snoc {K : PySem.W.Frag} {B : Hp} : ∀ {as : List V} {es : List D} {v : V} {d : D}, DpAll K B as es → Dp K B v d → DpAll K B (as ++ [v]) (es ++ [d])
  | _, _, _, _, .nil, h2 => .cons h2 .nil
  | _, _, _, _, .cons a b, h2 => .cons a (DpAll.snoc b h2)
theorem DpAll.rev {K : PySem.W.Frag} {B : Hp} : ∀ {vs : List V} {ds : List D}, DpAll K B vs ds → DpAll K B vs.reverse ds.reverse
  | _, _, .nil => .nil
  | _, _, .cons a b => by rw [List.reverse_cons, List.reverse_cons]; exact DpAll.snoc (DpAll.rev b) a
def wRevL (b : Bool) (a : WE) : WE := fun r m R x => a r m (fun u m1 => ok (asL m1 u) fun xs => wNw b xs.reverse m1 R) x
theorem pd_revL {b : Bool} {k : Nat} {p1 p2 p3 pos : Pos} (ha : PE X a (up X.K W fa)) : PE X (.Subscript a (.Slice none none (some (.UnaryOp .USub (.Constant (.int 1) k p1) p2)) p3) pos) (up X.K W (wRevL b fa)) := PE.imp (pe_revL ha) fun σ H Q h => by
  obtain ⟨B, ρ, m, R, x, er, S, h, t, tx⟩ := h
  refine ⟨B, ρ, m, _, x, er, S, h, fun B1 d m1 u H1 s1 S1 f1 p1 q1 => ?_, tx⟩
  obtain ⟨xs, h1, h2⟩ := ok_iff.mp q1
  obtain ⟨l, vs, rfl, hl, pa⟩ := seqL S1 p1 h1
  exact ⟨l, vs, rfl, .inl (.inl hl), fun q nq => eff_nw S1 (t.step s1 f1) pa.rev h2 q nq⟩
def wRevT (a : WE) : WE := fun r m R x => a r m (fun u m1 => match u with | .tup xs => R (.tup xs.reverse) m1 | _ => False) x
theorem pd_revT {k : Nat} {p1 p2 p3 pos : Pos} (ha : PE X a (up X.K W fa)) : PE X (.Subscript a (.Slice none none (some (.UnaryOp .USub (.Constant (.int 1) k p1) p2)) p3) pos) (up X.K W (wRevT fa)) := PE.imp (pe_revT ha) fun σ H Q h => by
  obtain ⟨B, ρ, m, R, x, er, S, h, t, tx⟩ := h
  refine ⟨B, ρ, m, _, x, er, S, h, fun B1 d m1 u H1 s1 S1 f1 p1 q1 => ?_, tx⟩
  cases p1 with
  | tup h1 h2 => exact ⟨_, _, rfl, sqT_mono S1.same h1, fun q nq => eff_tup S1 (t.step s1 f1) h2.rev q1 q nq⟩
  | _ => exact q1.elim
end
@[simp] theorem e_revL (b : Bool) (a : WE) (r : Env) (m : Store) (R : KD) (x : XD) : wRevL b a r m R x = a r m (fun u m1 => ok (asL m1 u) fun xs => wNw b xs.reverse m1 R) x := rfl
@[simp] theorem e_revT (a : WE) (r : Env) (m : Store) (R : KD) (x : XD) : wRevT a r m R x = a r m (fun u m1 => match u with | .tup xs => R (.tup xs.reverse) m1 | _ => False) x := rfl
end DL
end
section
set_option maxHeartbeats 0
namespace DL
open PySem
def intO : D → Int
  | .int i => i
  | _ => 0
def tabsB (e : Int) : D → Bool
  | .tup xs => decide (xs.length ≤ 6) && xs.all (fun d => wholeB d 0 e) && rise (fun a b : Int => decide (a < b)) (xs.map intO)
  | _ => false
structure TbOk (e : Int) (ts : List Int) : Prop where
  l : ts.length ≤ 6
  b : ∀ t ∈ ts, 0 ≤ t ∧ t ≤ e
  r : rise (fun a b : Int => decide (a < b)) ts = true
def inTabs (A : Ad) (m : Store) (e : Int) (d : D) (x : XD) (K : List Int → Prop) : Prop := arg m d ∧ (tabsB e d = false → x A.xNoPlace m) ∧ ∀ ts, d = .tup (ts.map .int) → TbOk e ts → K ts
def ph_need_tabs (A : Ad) : FW := fun ds m R x => ∃ c dead dn d, ds = [machD c dead dn, d] ∧ MOk c dead dn ∧ inTabs A m (2 * c) d x fun _ => R .non m
def signsG : Str := G_SIGNS ++ G_GREAT
def partB (e : Int) : D → Bool
  | .tup [a, b, w] => wholeB a 0 e && oneOfB b signsG && colB w
  | _ => false
def ph_is_part (A : Ad) : FW := fun ds m R _ => ∃ c dead dn d, ds = [machD c dead dn, d] ∧ MOk c dead dn ∧ arg m d ∧ R (.bl (partB (2 * c) d)) m
def redO : D → Bool
  | .str w => decide (w = PySem.Str.ofString "red")
  | _ => false
def ptO : D → Pt
  | .tup [a, b, w] => ⟨intO a, sgn b, redO w⟩
  | _ => ⟨0, 0, false⟩
def goalB (e : Int) : D → Bool
  | .tup xs => decide (xs.length ≤ 5) && xs.all (partB e) && rise ptLt (xs.map ptO)
  | _ => false
structure GOk (e : Int) (ps : List Pt) : Prop where
  l : ps.length ≤ 5
  b : ∀ p ∈ ps, 0 ≤ p.place ∧ p.place ≤ e ∧ p.sign ∈ signsG.cps.toList
  r : rise ptLt ps = true
def inGoal (A : Ad) (m : Store) (e : Int) (d : D) (x : XD) (K : List Pt → Prop) : Prop := arg m d ∧ (goalB e d = false → x A.xNoGoal m) ∧ ∀ ps, d = .tup (ps.map ptD) → GOk e ps → K ps
def ph_need_goal (A : Ad) : FW := fun ds m R x => ∃ c dead dn d, ds = [machD c dead dn, d] ∧ MOk c dead dn ∧ inGoal A m (2 * c) d x fun _ => R .non m
def isGreat (c : Nat) : Bool := decide (65 ≤ c ∧ c ≤ 90)
def isSmall (c : Nat) : Bool := decide (97 ≤ c ∧ c ≤ 122)
def canB (c : Nat) (caps : Bool) : Bool := if isGreat c = true then caps else (!caps || !isSmall c)
def ph_can_strike (A : Ad) : FW := fun ds m R _ => ∃ c b, ds = [ch c, .bl b] ∧ R (.bl (canB c b)) m
structure Sn where
  place : Int
  red : Bool
  caps : Bool
  left : List Nat
deriving DecidableEq
def numsD (l : List Nat) : List D := l.map fun i => .int (i : Nat)
def snD (s : Sn) : D := .tup [.int s.place, .int (if s.red = true then 1 else 0), .bl s.caps, .tup (numsD s.left)]
structure Gm where
  e : Int
  dead : List Nat
  tabs : List Int
  ps : List Pt
def Gm.ok (g : Gm) : Prop := 16 ≤ g.e ∧ g.e ≤ 80 ∧ g.dead ∈ deads ∧ TbOk g.e g.tabs ∧ GOk g.e g.ps
def hit (g : Gm) (s : Sn) (i : Nat) (p : Pt) : Bool := decide (i ∈ s.left) && (decide (p.place = s.place) && (decide (p.red = s.red) && (canB p.sign s.caps && decide (s.place + 2 ≤ g.e))))
def struckN (g : Gm) (s : Sn) (i : Nat) (p : Pt) : Ky × Sn := (.sign (loC p.sign), { s with place := if p.sign ∈ g.dead then s.place else s.place + 2, left := s.left.filter fun j => decide (j ≠ i) })
def strikesN (g : Gm) (s : Sn) : Nat → List Pt → List (Ky × Sn)
  | _, [] => []
  | i, p :: r => (if hit g s i p = true then [struckN g s i p] else []) ++ strikesN g s (i + 1) r
def movesN (g : Gm) (s : Sn) : List (Ky × Int) := [(.blank, s.place + 2), (.half, s.place + 1), (.back, s.place - 2)] ++ ((g.tabs.filter fun t => decide (s.place < t)).take 1).map fun t => (.tab, t)
def inB (g : Gm) (q : Int) : Bool := decide (0 ≤ q) && decide (q ≤ g.e)
def stepsN (g : Gm) (s : Sn) : List (Ky × Sn) := strikesN g s 0 g.ps ++ ((movesN g s).filter fun q => inB g q.2).map (fun q => (q.1, { s with place := q.2 })) ++ [(.ribbon, { s with red := !s.red }), (.caps, { s with caps := !s.caps })]
def ksD (q : Ky × Sn) : D := .tup [kyD q.1, snD q.2]
def SnOk (g : Gm) (s : Sn) : Prop := 0 ≤ s.place ∧ s.place ≤ g.e ∧ s.left.Sublist (List.range g.ps.length)
def ph_steps_on (A : Ad) : FW := fun ds m R _ => ∃ c dead dn ts ps s, ds = [machD c dead dn, .tup (ts.map .int), snD s, .tup (ps.map ptD)] ∧ MOk c dead dn ∧ Gm.ok ⟨2 * c, dead, ts, ps⟩ ∧ SnOk ⟨2 * c, dead, ts, ps⟩ s ∧ R (.lst ((stepsN ⟨2 * c, dead, ts, ps⟩ s).map ksD)) m
abbrev Fd := List (Sn × Option (Ky × Sn))
def parD : Option (Ky × Sn) → D
  | none => .non
  | some q => .tup [kyD q.1, snD q.2]
def fdD (f : Fd) : List (D × D) := f.map fun x => (snD x.1, parD x.2)
def lookF : Fd → Sn → Option (Option (Ky × Sn))
  | [], _ => none
  | x :: r, s => if x.1 = s then some x.2 else lookF r s
inductive Way (f : Fd) : Sn → List Ky → Prop
  | nil {s : Sn} : lookF f s = some none → Way f s []
  | snoc {s t : Sn} {k : Ky} {ks : List Ky} : lookF f s = some (some (k, t)) → Way f t ks → Way f s (ks ++ [k])
def ph_way_back (A : Ad) : FW := fun ds m R _ => ∃ a f s ks, ds = [.ref a, snD s] ∧ m a = some (.dnt a (fdD f)) ∧ Way f s ks ∧ ks.length < 1000000 ∧ (∀ x ∈ f, x.1.left.length ≤ 5) ∧ R (.tup (ks.map kyD)) m
def growN (s : Sn) : List (Ky × Sn) → Fd → List Sn → Fd × List Sn
  | [], f, new => (f, new)
  | q :: r, f, new => if (lookF f q.2).isSome = true then growN s r f new else growN s r (f ++ [(q.2, some (q.1, s))]) (new ++ [q.2])
def scanN (g : Gm) : List Sn → Fd → List Sn → (Sn × Fd) ⊕ (Fd × List Sn)
  | [], f, new => .inr (f, new)
  | s :: r, f, new => if s.left = [] then .inl (s, f) else scanN g r (growN s (stepsN g s) f new).1 (growN s (stepsN g s) f new).2
inductive Bfs (g : Gm) : Fd → List Sn → Option (List Ky) → Prop
  | none {f : Fd} : Bfs g f [] none
  | some {f f' : Fd} {row : List Sn} {s : Sn} {ks : List Ky} : scanN g row f [] = .inl (s, f') → Way f' s ks → ks.length < 1000000 → Bfs g f row (some ks)
  | more {f f' : Fd} {row new : List Sn} {o : Option (List Ky)} : row ≠ [] → scanN g row f [] = .inr (f', new) → Bfs g f' new o → Bfs g f row o
def firstN (g : Gm) : Sn := ⟨0, false, false, List.range g.ps.length⟩
def Fewest (g : Gm) (o : Option (List Ky)) : Prop := Bfs g [(firstN g, none)] [firstN g] o
def fewD : Option (List Ky) → D
  | none => .non
  | some ks => .tup (ks.map kyD)
def ph_fewest (A : Ad) : FW := fun ds m R x => ∃ dm dt dg, ds = [dm, dt, dg] ∧ inMach A m dm x fun c dead dn => inTabs A m (2 * c) dt x fun ts => inGoal A m (2 * c) dg x fun ps => ∃ o, Fewest ⟨2 * c, dead, ts, ps⟩ o ∧ R (fewD o) m
end DL
end
section
set_option maxHeartbeats 0
namespace DL
open PySem
def psi_is_part (A : Ad) : WS := wSeq (wIfS (wOr (wNot (wTest (wCallB wIsi (wCons (wVar 1) (wCons (wC (.ty "tuple")) (wNil)))))) (wOr (wTest (wOp wNe (wCallB wLen (wCons (wVar 1) (wNil))) (wC (.int 3)))) (wNot (wTest (wCall 3 (ph_is_whole A) (wCons (wOp wIx (wVar 1) (wC (.int 0))) (wCons (wC (.int 0)) (wCons (wCall 1 (ph_end_of A) (wCons (wVar 0) (wNil))) (wNil))))))))) (wRet (wC (.bl false))) (wNext)) (wRet (wAndV (wCall 2 (ph_is_one_of A) (wCons (wOp wIx (wVar 1) (wC (.int 1))) (wCons (wOp (wAdd false) (wC (.str G_SIGNS)) (wC (.str G_GREAT))) (wNil)))) (wAndV (wCallB wIsi (wCons (wOp wIx (wVar 1) (wC (.int 2))) (wCons (wC (.ty "str")) (wNil)))) (wOp wIn (wOp wIx (wVar 1) (wC (.int 2))) (wC (.tup G_COLOURS))))))
def psi_need_goal (A : Ad) : WS := wSeq (wIfS (wOr (wNot (wTest (wCallB wIsi (wCons (wVar 1) (wCons (wC (.ty "tuple")) (wNil)))))) (wOr (wTest (wOp wGt (wCallB wLen (wCons (wVar 1) (wNil))) (wC (.int 5)))) (wNot (wTest (wCallB wAll (wCons (wLc false [2] (iSeq (wVar 1)) (gNm 2) (wYes) (wCall 2 (ph_is_part A) (wCons (wVar 0) (wCons (wVar 2) (wNil))))) (wNil))))))) (wRaise A.xNoGoal) (wNext)) (wIfS (wNot (wTest (wCall 1 (ph_is_rising A) (wCons (wVar 1) (wNil))))) (wRaise A.xNoGoal) (wNext))
def psi_need_tabs (A : Ad) : WS := wSeq (wIfS (wOr (wNot (wTest (wCallB wIsi (wCons (wVar 1) (wCons (wC (.ty "tuple")) (wNil)))))) (wTest (wOp wGt (wCallB wLen (wCons (wVar 1) (wNil))) (wC (.int 6))))) (wRaise A.xNoPlace) (wNext)) (wIfS (wOr (wNot (wTest (wCallB wAll (wCons (wLc false [2] (iSeq (wVar 1)) (gNm 2) (wYes) (wCall 3 (ph_is_whole A) (wCons (wVar 2) (wCons (wC (.int 0)) (wCons (wCall 1 (ph_end_of A) (wCons (wVar 0) (wNil))) (wNil)))))) (wNil))))) (wNot (wTest (wCall 1 (ph_is_rising A) (wCons (wVar 1) (wNil)))))) (wRaise A.xNoPlace) (wNext))
def psi_can_strike (A : Ad) : WS := wRet (wIf (wTest (wOp wIn (wVar 0) (wC (.str G_GREAT)))) (wVar 1) (wOrV (wNotV (wVar 1)) (wOp wNotIn (wVar 0) (wC (.str G_LETTERS)))))
def psi_steps_on_t9 (A : Ad) : WS := wRet (wFgt (wFrz (wVar 9)))
def psi_steps_on_t8 (A : Ad) : WS := wSeq (wExp (wMt "list" wAppend (wVar 9) (wCons (wTup (wCons (wTup (wCons (wC (.str (PySem.Str.ofString "caps"))) (wNil))) (wCons (wTup (wCons (wVar 4) (wCons (wVar 5) (wCons (wNotV (wVar 6)) (wCons (wVar 7) (wNil)))))) (wNil)))) (wNil)))) (psi_steps_on_t9 A)
def psi_steps_on_t7 (A : Ad) : WS := wSeq (wExp (wMt "list" wAppend (wVar 9) (wCons (wTup (wCons (wTup (wCons (wC (.str (PySem.Str.ofString "ribbon"))) (wNil))) (wCons (wTup (wCons (wVar 4) (wCons (wOp wSub (wC (.int 1)) (wVar 5)) (wCons (wVar 6) (wCons (wVar 7) (wNil)))))) (wNil)))) (wNil)))) (psi_steps_on_t8 A)
def psi_steps_on_t6 (A : Ad) : WS := wSeq (wExp (wMt "list" wExtend (wVar 9) (wCons (wLc false [19, 14] (iSeq (wVar 16)) (gTp [19, 14]) (wTest (wChain wLe wLe (wC (.int 0)) (wVar 14) (wVar 8))) (wTup (wCons (wTup (wCons (wVar 19) (wNil))) (wCons (wTup (wCons (wVar 14) (wCons (wVar 5) (wCons (wVar 6) (wCons (wVar 7) (wNil)))))) (wNil))))) (wNil)))) (psi_steps_on_t7 A)
def psi_steps_on_t5 (A : Ad) : WS := wSeq (wExp (wMt "list" wExtend (wVar 16) (wCons (wLc false [18] (iSeq (wSl (wCut false) (wLc false [18] (iSeq (wVar 1)) (gNm 18) (wTest (wOp wGt (wVar 18) (wVar 4))) (wVar 18)) (oNone) (oSome (wC (.int 1))))) (gNm 18) (wYes) (wTup (wCons (wC (.str (PySem.Str.ofString "tab"))) (wCons (wVar 18) (wNil))))) (wNil)))) (psi_steps_on_t6 A)
def psi_steps_on_t4 (A : Ad) : WS := wSeq (wSet 16 (wLst true (wCons (wTup (wCons (wC (.str (PySem.Str.ofString "blank"))) (wCons (wOp (wAdd false) (wVar 4) (wC (.int 2))) (wNil)))) (wCons (wTup (wCons (wC (.str (PySem.Str.ofString "half"))) (wCons (wOp (wAdd false) (wVar 4) (wC (.int 1))) (wNil)))) (wCons (wTup (wCons (wC (.str (PySem.Str.ofString "back"))) (wCons (wOp wSub (wVar 4) (wC (.int 2))) (wNil)))) (wNil)))))) (psi_steps_on_t5 A)
def psi_steps_on_t3 (A : Ad) : WS := wSeq (wFor (iEnumA (wVar 3)) (gTn 10 [11, 12, 13]) (wIfS (wAnd (wTest (wOp wIn (wVar 10) (wVar 7))) (wAnd (wTest (wOp wEq (wVar 11) (wVar 4))) (wAnd (wTest (wOp wEq (wVar 13) (wOp wIx (wC (.tup G_COLOURS)) (wVar 5)))) (wAnd (wTest (wCall 2 (ph_can_strike A) (wCons (wVar 12) (wCons (wVar 6) (wNil))))) (wTest (wOp wLe (wOp (wAdd false) (wVar 4) (wC (.int 2))) (wVar 8))))))) (wSeq (wSet 14 (wIf (wTest (wOp wIn (wVar 12) (wOp wIx (wVar 0) (wC (.int 1))))) (wVar 4) (wOp (wAdd false) (wVar 4) (wC (.int 2))))) (wSeq (wSet 15 (wCallB wTuple (wCons (wLc false [17] (iSeq (wVar 7)) (gNm 17) (wTest (wOp wNe (wVar 17) (wVar 10))) (wVar 17)) (wNil)))) (wExp (wMt "list" wAppend (wVar 9) (wCons (wTup (wCons (wCall 1 (ph_key_for A) (wCons (wVar 12) (wNil))) (wCons (wTup (wCons (wVar 14) (wCons (wVar 5) (wCons (wVar 6) (wCons (wVar 15) (wNil)))))) (wNil)))) (wNil)))))) (wNext))) (psi_steps_on_t4 A)
def psi_steps_on_t2 (A : Ad) : WS := wSeq (wSet 9 (wLst true (wNil))) (psi_steps_on_t3 A)
def psi_steps_on_t1 (A : Ad) : WS := wSeq (wSet 8 (wCall 1 (ph_end_of A) (wCons (wVar 0) (wNil)))) (psi_steps_on_t2 A)
def psi_steps_on (A : Ad) : WS := wSeq (wAsg (wVar 2) (gTp [4, 5, 6, 7])) (psi_steps_on_t1 A)
def psi_way_back (A : Ad) : WS := wSeq (wSet 2 (wLst true (wNil))) (wSeq (wWhile (wTest (wOp wNotN (wOp wNGet (wVar 0) (wVar 1)) (wC .non))) (wSeq (wAsg (wOp wNGet (wVar 0) (wVar 1)) (gTp [3, 4])) (wSeq (wExp (wMt "list" wAppend (wVar 2) (wCons (wVar 3) (wNil)))) (wSet 1 (wVar 4))))) (wRet (wFgt (wCallB wTuple (wCons (wRevL false (wVar 2)) (wNil))))))
def psi_fewest_t7 (A : Ad) : WS := wRet (wFgt (wC .non))
def psi_fewest_t6 (A : Ad) : WS := wSeq (wWhile (wTest (wOp wNe (wVar 5) (wLst false (wNil)))) (wSeq (wSet 6 (wLst true (wNil))) (wSeq (wFor (iSeq (wVar 5)) (gNm 7) (wSeq (wIfS (wTest (wOp wEq (wOp wIx (wVar 7) (wC (.int 3))) (wTup (wNil)))) (wRet (wFgt (wCall 2 (ph_way_back A) (wCons (wVar 4) (wCons (wVar 7) (wNil)))))) (wNext)) (wFor (iSeq (wCall 4 (ph_steps_on A) (wCons (wVar 0) (wCons (wVar 1) (wCons (wVar 7) (wCons (wVar 2) (wNil))))))) (gTp [8, 9]) (wIfS (wTest (wOp wNNotIn (wVar 9) (wVar 4))) (wSeq (wNPut (wVar 4) (wVar 9) (wTup (wCons (wVar 8) (wCons (wVar 7) (wNil))))) (wExp (wMt "list" wAppend (wVar 6) (wCons (wVar 9) (wNil))))) (wNext))))) (wSet 5 (wVar 6))))) (psi_fewest_t7 A)
def psi_fewest_t5 (A : Ad) : WS := wSeq (wSet 5 (wLst true (wCons (wVar 3) (wNil)))) (psi_fewest_t6 A)
def psi_fewest_t4 (A : Ad) : WS := wSeq (wSet 4 (wNDisp (wVar 3) (wC .non))) (psi_fewest_t5 A)
def psi_fewest_t3 (A : Ad) : WS := wSeq (wSet 3 (wTup (wCons (wC (.int 0)) (wCons (wC (.int 0)) (wCons (wC (.bl false)) (wCons (wTupRg (wCallB wLen (wCons (wVar 2) (wNil)))) (wNil))))))) (psi_fewest_t4 A)
def psi_fewest_t2 (A : Ad) : WS := wSeq (wExp (wCall 2 (ph_need_goal A) (wCons (wVar 0) (wCons (wVar 2) (wNil))))) (psi_fewest_t3 A)
def psi_fewest_t1 (A : Ad) : WS := wSeq (wExp (wCall 2 (ph_need_tabs A) (wCons (wVar 0) (wCons (wVar 1) (wNil))))) (psi_fewest_t2 A)
def psi_fewest (A : Ad) : WS := wSeq (wExp (wCall 1 (ph_need_machine A) (wCons (wVar 0) (wNil)))) (psi_fewest_t1 A)
end DL
end
section
set_option maxHeartbeats 0
namespace DL
open PySem
theorem isi_tup : ∀ n ∈ ["NoneType", "bool", "int", "str", "tuple", "list", "dict"], n ≠ "tuple" → isiN n "tuple" = false := by decide
theorem whole_is {d : D} {lo hi : Int} (h : wholeB d lo hi = true) : ∃ i, d = .int i ∧ lo ≤ i ∧ i ≤ hi := by
  cases d <;> simp [wholeB] at h
  exact ⟨_, rfl, h.1, h.2⟩
theorem oneOf_is {d : D} {s : Str} (h : oneOfB d s = true) : ∃ c, d = ch c ∧ c ∈ s.cps.toList := by
  match d, h with
  | .str ⟨⟨[c]⟩⟩, h => exact ⟨c, rfl, by simpa [oneOfB] using h⟩
theorem oneOf_ch (c : Nat) (s : Str) : oneOfB (ch c) s = decide (c ∈ s.cps.toList) := rfl
theorem col_is {d : D} (h : colB d = true) : ∃ r : Bool, d = if r = true then wordD "red" else wordD "black" := by
  cases d <;> simp [colB] at h
  rcases h with h | h
  · exact ⟨false, by rw [h]; rfl⟩
  · exact ⟨true, by rw [h]; rfl⟩
theorem part_is {e : Int} {d : D} (h : partB e d = true) : ∃ p, d = ptD p ∧ 0 ≤ p.place ∧ p.place ≤ e ∧ p.sign ∈ signsG.cps.toList := by
  unfold partB at h
  split at h
  · rename_i a b w
    simp only [Bool.and_eq_true] at h
    obtain ⟨i, rfl, h1, h2⟩ := whole_is h.1.1
    obtain ⟨c, rfl, h3⟩ := oneOf_is h.1.2
    obtain ⟨r, rfl⟩ := col_is h.2
    exact ⟨⟨i, c, r⟩, rfl, h1, h2, h3⟩
  · cases h
theorem ptO_ptD (p : Pt) : ptO (ptD p) = p := by
  obtain ⟨a, b, r⟩ := p
  cases r
  · simp [ptD, ptO, intO, sgn, redO, wordD, ch]
  · simp [ptD, ptO, intO, sgn, redO, wordD, ch]
theorem part_ptD {e : Int} {p : Pt} (h : 0 ≤ p.place ∧ p.place ≤ e ∧ p.sign ∈ signsG.cps.toList) : partB e (ptD p) = true := by
  have e1 : colB (if p.red = true then wordD "red" else wordD "black") = true := by
    cases p.red
    · simp [colB, wordD]
    · simp [colB, wordD]
  simp only [ptD, partB, Bool.and_eq_true]
  exact ⟨⟨by simp [wholeB, h.1, h.2.1], by rw [oneOf_ch]; exact decide_eq_true h.2.2⟩, e1⟩
theorem signsG_lt {c : Nat} (h : c ∈ signsG.cps.toList) : c < 128 := by
  have : ∀ c ∈ signsG.cps.toList, c < 128 := by decide +kernel
  exact this c h
theorem ints_is {lo hi : Int} : ∀ {xs : List D}, (∀ d ∈ xs, wholeB d lo hi = true) → ∃ ts : List Int, xs = ts.map .int ∧ xs.map intO = ts ∧ ∀ t ∈ ts, lo ≤ t ∧ t ≤ hi
  | [], _ => ⟨[], rfl, rfl, by simp⟩
  | d :: xs, h => by
    obtain ⟨ts, e1, e2, e3⟩ := ints_is (xs := xs) fun d hd => h d (List.mem_cons_of_mem _ hd)
    obtain ⟨i, rfl, h1, h2⟩ := whole_is (h _ List.mem_cons_self)
    refine ⟨i :: ts, by rw [e1]; rfl, by rw [List.map_cons, e2]; rfl, fun t ht => ?_⟩
    rcases List.mem_cons.mp ht with z | z
    · subst z; exact ⟨h1, h2⟩
    · exact e3 t z
theorem parts_is {e : Int} : ∀ {xs : List D}, (∀ d ∈ xs, partB e d = true) → ∃ ps : List Pt, xs = ps.map ptD ∧ xs.map ptO = ps ∧ ∀ p ∈ ps, 0 ≤ p.place ∧ p.place ≤ e ∧ p.sign ∈ signsG.cps.toList
  | [], _ => ⟨[], rfl, rfl, by simp⟩
  | d :: xs, h => by
    obtain ⟨ts, e1, e2, e3⟩ := parts_is (xs := xs) fun d hd => h d (List.mem_cons_of_mem _ hd)
    obtain ⟨p, rfl, h1⟩ := part_is (h _ List.mem_cons_self)
    refine ⟨p :: ts, by rw [e1]; rfl, by rw [List.map_cons, e2, ptO_ptD], fun t ht => ?_⟩
    rcases List.mem_cons.mp ht with z | z
    · subst z; exact h1
    · exact e3 t z
theorem intO_map (ts : List Int) : (ts.map D.int).map intO = ts := by
  induction ts with
  | nil => rfl
  | cons a l ih => rw [List.map_cons, List.map_cons, ih]; rfl
theorem ptO_map (ps : List Pt) : (ps.map ptD).map ptO = ps := by
  induction ps with
  | nil => rfl
  | cons a l ih => rw [List.map_cons, List.map_cons, ih, ptO_ptD]
theorem ptDs_inj {a b : List Pt} (h : a.map ptD = b.map ptD) : a = b := by rw [← ptO_map a, h, ptO_map]
theorem ints_inj {a b : List Int} (h : a.map D.int = b.map D.int) : a = b := by rw [← intO_map a, h, intO_map]
theorem tabs_tabsB {e : Int} {ts : List Int} (h : TbOk e ts) : tabsB e (.tup (ts.map .int)) = true := by
  simp only [tabsB, List.length_map, intO_map, h.r, Bool.and_true, Bool.and_eq_true, decide_eq_true_eq, List.all_eq_true]
  refine ⟨h.l, fun d hd => ?_⟩
  obtain ⟨t, ht, rfl⟩ := List.mem_map.mp hd
  simp [wholeB, h.b t ht]
theorem tabsB_is {e : Int} {d : D} (h : tabsB e d = true) : ∃ ts, d = .tup (ts.map .int) ∧ TbOk e ts := by
  unfold tabsB at h
  split at h
  · rename_i xs
    simp only [Bool.and_eq_true, decide_eq_true_eq, List.all_eq_true] at h
    obtain ⟨⟨h1, h2⟩, h3⟩ := h
    obtain ⟨ts, rfl, e2, e3⟩ := ints_is h2
    rw [e2] at h3
    exact ⟨ts, rfl, by simpa using h1, e3, h3⟩
  · cases h
theorem goal_goalB {e : Int} {ps : List Pt} (h : GOk e ps) : goalB e (.tup (ps.map ptD)) = true := by
  simp only [goalB, List.length_map, ptO_map, h.r, Bool.and_true, Bool.and_eq_true, decide_eq_true_eq, List.all_eq_true]
  refine ⟨h.l, fun d hd => ?_⟩
  obtain ⟨p, hp, rfl⟩ := List.mem_map.mp hd
  exact part_ptD (h.b p hp)
theorem goalB_is {e : Int} {d : D} (h : goalB e d = true) : ∃ ps, d = .tup (ps.map ptD) ∧ GOk e ps := by
  unfold goalB at h
  split at h
  · rename_i xs
    simp only [Bool.and_eq_true, decide_eq_true_eq, List.all_eq_true] at h
    obtain ⟨⟨h1, h2⟩, h3⟩ := h
    obtain ⟨ps, rfl, e2, e3⟩ := parts_is h2
    rw [e2] at h3
    exact ⟨ps, rfl, by simpa using h1, e3, h3⟩
  · cases h
theorem tabs_arg {m : Store} {ts : List Int} (h : ts.length ≤ 1000) : arg m (.tup (ts.map .int)) := by
  have L : LIM = 16777216 := rfl
  refine .inl ⟨?_, ?_⟩
  · simp only [dOk]
    exact doks_all fun d hd => by obtain ⟨t, _, rfl⟩ := List.mem_map.mp hd; rfl
  · simp only [szOk, List.length_map, Bool.and_eq_true, decide_eq_true_eq]
    exact ⟨by omega, szs_all fun d hd => by obtain ⟨t, _, rfl⟩ := List.mem_map.mp hd; rfl⟩
theorem pt_dok {p : Pt} (h : p.sign < 128) : dOk (ptD p) 59 = true := by
  have h1 := ok_ch p.sign 58 h
  have h2 : dOk (if p.red = true then wordD "red" else wordD "black") 58 = true := by
    cases p.red
    · exact ok_word "black" 58 (by decide +kernel)
    · exact ok_word "red" 58 (by decide +kernel)
  show (true && (dOk (ch p.sign) 58 && (dOk (if p.red = true then wordD "red" else wordD "black") 58 && true))) = true
  rw [h1, h2]; rfl
theorem pt_sz (p : Pt) : szOk (ptD p) = true := by
  have e : szOk (if p.red = true then wordD "red" else wordD "black") = true := by
    cases p.red
    · decide +kernel
    · decide +kernel
  have e2 : szOk (ch p.sign) = true := by show decide (1 ≤ LIM) = true; decide
  show (decide (3 ≤ LIM) && (true && (szOk (ch p.sign) && (szOk (if p.red = true then wordD "red" else wordD "black") && true)))) = true
  rw [e, e2]; decide
theorem goal_arg {m : Store} {ps : List Pt} (h : ps.length ≤ 1000) (hs : ∀ p ∈ ps, p.sign < 128) : arg m (.tup (ps.map ptD)) := by
  have L : LIM = 16777216 := rfl
  refine .inl ⟨?_, ?_⟩
  · simp only [dOk]
    exact doks_all fun d hd => by obtain ⟨t, ht, rfl⟩ := List.mem_map.mp hd; exact pt_dok (hs t ht)
  · simp only [szOk, List.length_map, Bool.and_eq_true, decide_eq_true_eq]
    exact ⟨by omega, szs_all fun d hd => by obtain ⟨t, _, rfl⟩ := List.mem_map.mp hd; exact pt_sz t⟩
section
variable {A : Ad} {m : Store} {x : XD} {e : Int} {d : D}
theorem inTabs.good {ts : List Int} {K : List Int → Prop} (ht : TbOk e ts) (h : K ts) : inTabs A m e (.tup (ts.map .int)) x K := by
  refine ⟨tabs_arg (by have := ht.l; omega), fun z => ?_, fun ts' e' _ => ?_⟩
  · rw [tabs_tabsB ht] at z; cases z
  · have e' : ts.map D.int = ts'.map D.int := by injection e'
    rw [← ints_inj e']; exact h
theorem inTabs.no {K : List Int → Prop} (ha : arg m d) (hb : tabsB e d = false) (h : x A.xNoPlace m) : inTabs A m e d x K := by
  refine ⟨ha, fun _ => h, fun ts e' ht => ?_⟩
  rw [e', tabs_tabsB ht] at hb; cases hb
theorem inTabs.imp {K K' : List Int → Prop} (h : inTabs A m e d x K) (f : ∀ ts, d = .tup (ts.map .int) → TbOk e ts → K ts → K' ts) : inTabs A m e d x K' := ⟨h.1, h.2.1, fun ts e ht => f ts e ht (h.2.2 ts e ht)⟩
theorem inGoal.good {ps : List Pt} {K : List Pt → Prop} (ht : GOk e ps) (h : K ps) : inGoal A m e (.tup (ps.map ptD)) x K := by
  refine ⟨goal_arg (by have := ht.l; omega) fun p hp => signsG_lt (ht.b p hp).2.2, fun z => ?_, fun ts' e' _ => ?_⟩
  · rw [goal_goalB ht] at z; cases z
  · have e' : ps.map ptD = ts'.map ptD := by injection e'
    rw [← ptDs_inj e']; exact h
theorem inGoal.no {K : List Pt → Prop} (ha : arg m d) (hb : goalB e d = false) (h : x A.xNoGoal m) : inGoal A m e d x K := by
  refine ⟨ha, fun _ => h, fun ts e' ht => ?_⟩
  rw [e', goal_goalB ht] at hb; cases hb
theorem inGoal.imp {K K' : List Pt → Prop} (h : inGoal A m e d x K) (f : ∀ ps, d = .tup (ps.map ptD) → GOk e ps → K ps → K' ps) : inGoal A m e d x K' := ⟨h.1, h.2.1, fun ts e ht => f ts e ht (h.2.2 ts e ht)⟩
end
variable {A : Ad} (hA : AdOk A)
include hA
theorem dt_need_tabs : ∀ ds m R x, ph_need_tabs A ds m R x → psi_need_tabs A (startD 3 ds) m (endD R x) := by
  rintro ds m R x ⟨c, dead, dn, d, rfl, hM, ha, hno, hyes⟩
  have L : LIM = 16777216 := rfl
  have h : if tabsB (2 * c) d = true then R .non m else x A.xNoPlace m := by
    cases hb : tabsB (2 * c) d with
    | false => simpa using hno hb
    | true =>
      obtain ⟨ts, e, ht⟩ := tabsB_is hb
      simpa using hyes ts e ht
  obtain ⟨n, hn, ⟨xs, rfl, rfl⟩ | ⟨no, nt⟩⟩ := arg_ty ha
  · obtain ⟨h1, h2⟩ : dOk (.tup xs) 60 = true ∧ szOk (.tup xs) = true := by
      rcases ha with z | ⟨_, _, z, _⟩
      · exact z
      · cases z
    have h3 : xs.length ≤ LIM ∧ szOks xs = true := by simpa [szOk] using h2
    have h4 : dOks xs 59 = true := by simpa [dOk] using h1
    simp [psi_need_tabs, wIsi, hn, isiN, wLen, asQ, wGt]
    by_cases hl : (6 : Int) < (xs.length : Nat)
    · have e : tabsB (2 * c) (.tup xs) = false := by
        have : decide (xs.length ≤ 6) = false := decide_eq_false (by omega)
        simp only [tabsB, this]; rfl
      rw [e] at h
      simpa [hl] using h
    · simp [hl, asI]
      refine lc_each (G := fun _ => True) (fun d => .bl (wholeB d 0 (2 * c))) trivial xs [] _ (by simpa using h3.1) (fun d hd K1 hK => ?_) ?_
      · simp
        refine ⟨c, dead, dn, rfl, hM, ?_⟩
        exact ⟨d, 0, 2 * c, rfl, dok_ty (dok_at h4 hd), hK⟩
      · rw [List.nil_append]
        have e : xs.map (fun d => D.bl (wholeB d 0 (2 * c))) = (xs.map fun d => wholeB d 0 (2 * c)).map .bl := by simp
        refine ⟨xs.map fun d => wholeB d 0 (2 * c), by rw [e]; rfl, ?_⟩
        have e3 : (xs.map fun d => wholeB d 0 (2 * c)).all id = xs.all fun d => wholeB d 0 (2 * c) := by simp [List.all_map, Function.comp]
        rw [e3]
        cases hb : xs.all fun d => wholeB d 0 (2 * c) with
        | false =>
          have e : tabsB (2 * c) (.tup xs) = false := by simp only [tabsB, hb]; simp
          rw [e] at h; simpa using h
        | true =>
          obtain ⟨ts, e1, e2, e3⟩ := ints_is (List.all_eq_true.mp hb)
          simp
          refine .inl ⟨ts, by rw [e1], by rw [e1] at h3; simpa using h3.1, ?_⟩
          have et : tabsB (2 * c) (.tup xs) = rise (fun a b : Int => decide (a < b)) ts := by
            have : decide (xs.length ≤ 6) = true := decide_eq_true (by omega)
            simp only [tabsB, hb, e2, this]; simp
          rw [et] at h
          cases hr : rise (fun a b : Int => decide (a < b)) ts with
          | false => rw [hr] at h; simpa using h
          | true => rw [hr] at h; simpa using h
  · have e : tabsB (2 * c) d = false := by
      cases d <;> first | rfl | (rename_i xs; exact absurd rfl (no xs))
    rw [e] at h
    have ei : isiN n "tuple" = false := isi_tup n (tyN_mem hn) nt
    simp [psi_need_tabs, wIsi, hn, ei]
    simpa using h
theorem dt_is_part : ∀ ds m R x, ph_is_part A ds m R x → psi_is_part A (startD 2 ds) m (endD R x) := by
  rintro ds m R x ⟨c, dead, dn, d, rfl, hM, ha, h⟩
  have L : LIM = 16777216 := rfl
  obtain ⟨n, hn, ⟨xs, rfl, rfl⟩ | ⟨no, nt⟩⟩ := arg_ty ha
  · obtain ⟨h1, h2⟩ : dOk (.tup xs) 60 = true ∧ szOk (.tup xs) = true := by
      rcases ha with z | ⟨_, _, z, _⟩
      · exact z
      · cases z
    have h3 : xs.length ≤ LIM ∧ szOks xs = true := by simpa [szOk] using h2
    have h4 : dOks xs 59 = true := by simpa [dOk] using h1
    simp [psi_is_part, wIsi, hn, isiN, wLen, asQ, wNeI]
    by_cases hl : xs.length = 3
    · obtain ⟨a, s, w, rfl⟩ : ∃ a s w, xs = [a, s, w] := by
        match xs, hl with
        | [a, s, w], _ => exact ⟨a, s, w, rfl⟩
      have i0 : ∀ (m : Store) (K : KD), wIx (.tup [a, s, w]) (.int 0) m K = K a m := fun _ _ => rfl
      have i1 : ∀ (m : Store) (K : KD), wIx (.tup [a, s, w]) (.int 1) m K = K s m := fun _ _ => rfl
      have i2 : ∀ (m : Store) (K : KD), wIx (.tup [a, s, w]) (.int 2) m K = K w m := fun _ _ => rfl
      have ta := fun m => dok_ty (m := m) (dok_at h4 (show a ∈ [a, s, w] by simp))
      have ts := fun m => dok_ty (m := m) (dok_at h4 (show s ∈ [a, s, w] by simp))
      have tw := dok_at h4 (show w ∈ [a, s, w] by simp)
      have zs := sz_at h3.2 (show s ∈ [a, s, w] by simp)
      simp [i0]
      refine ⟨c, dead, dn, rfl, hM, ?_⟩
      refine ⟨_, _, _, rfl, ta m, ?_⟩
      simp only [partB] at h
      cases e1 : wholeB a 0 (2 * c) with
      | false => rw [e1] at h; simpa using h
      | true =>
        rw [e1] at h
        have hz : G_SIGNS.length + G_GREAT.length ≤ LIM := by decide +kernel
        simp [i1, wAdd, hz]
        refine ⟨_, _, rfl, ts m, fun t e => ?_, ?_⟩
        · rw [e] at zs; simpa [szOk] using zs
        cases e2 : oneOfB s (G_SIGNS ++ G_GREAT) with
        | false =>
          have e2' : oneOfB s signsG = false := e2
          rw [e2'] at h; simpa using h
        | true =>
          have e2' : oneOfB s signsG = true := e2
          rw [e2'] at h
          simp [i2, wIsi]
          obtain ⟨nw, hnw⟩ := Option.isSome_iff_exists.mp (dok_ty (m := m) tw)
          refine ok_iff.mpr ⟨nw, hnw, ?_⟩
          simp only [Bool.true_and] at h
          cases w with
          | str t =>
            simp [tyN] at hnw
            subst hnw
            have es : isiN "str" "str" = true := rfl
            refine ⟨rfl, by simp [G_COLOURS, wordD, flatD], ?_⟩
            have e : inD (.str t) G_COLOURS = colB (.str t) := by
              simp [inD, G_COLOURS, wordD, eqD, colB]
              congr 1 <;> exact decide_eq_decide.mpr eq_comm
            rw [e]; exact h
          | ref a =>
            simp [tyN] at hnw
            simp only [colB] at h
            cases e : m a with
            | none => simp [e] at hnw
            | some o => cases o <;> simp [e] at hnw <;> subst hnw <;> simpa [isiN] using h
          | _ => simp [tyN] at hnw <;> subst hnw <;> simpa [isiN, colB] using h
    · have hl' : ¬ ((xs.length : Int) = 3) := by omega
      simp [hl']
      have e : partB (2 * c) (.tup xs) = false := by
        unfold partB
        split
        · rename_i heq; cases heq; simp at hl
        · rfl
      rw [e] at h
      exact h
  · have e : partB (2 * c) d = false := by
      cases d <;> first | rfl | (rename_i xs; exact absurd rfl (no xs))
    rw [e] at h
    have ei : isiN n "tuple" = false := isi_tup n (tyN_mem hn) nt
    simp [psi_is_part, wIsi, hn, ei]
    simpa using h
theorem dt_need_goal : ∀ ds m R x, ph_need_goal A ds m R x → psi_need_goal A (startD 3 ds) m (endD R x) := by
  rintro ds m R x ⟨c, dead, dn, d, rfl, hM, ha, hno, hyes⟩
  have L : LIM = 16777216 := rfl
  have h : if goalB (2 * c) d = true then R .non m else x A.xNoGoal m := by
    cases hb : goalB (2 * c) d with
    | false => simpa using hno hb
    | true =>
      obtain ⟨ts, e, ht⟩ := goalB_is hb
      simpa using hyes ts e ht
  obtain ⟨n, hn, ⟨xs, rfl, rfl⟩ | ⟨no, nt⟩⟩ := arg_ty ha
  · obtain ⟨h1, h2⟩ : dOk (.tup xs) 60 = true ∧ szOk (.tup xs) = true := by
      rcases ha with z | ⟨_, _, z, _⟩
      · exact z
      · cases z
    have h3 : xs.length ≤ LIM ∧ szOks xs = true := by simpa [szOk] using h2
    have h4 : dOks xs 59 = true := by simpa [dOk] using h1
    simp [psi_need_goal, wIsi, hn, isiN, wLen, asQ, wGt]
    by_cases hl : (5 : Int) < (xs.length : Nat)
    · have e : goalB (2 * c) (.tup xs) = false := by
        have : decide (xs.length ≤ 5) = false := decide_eq_false (by omega)
        simp only [goalB, this]; rfl
      rw [e] at h
      simpa [hl] using h
    · simp [hl, asI]
      refine lc_each (G := fun _ => True) (fun d => .bl (partB (2 * c) d)) trivial xs [] _ (by simpa using h3.1) (fun d hd K1 hK => ?_) ?_
      · simp
        exact ⟨c, dead, dn, d, rfl, hM, .inl ⟨dok_up d 59 (dok_at h4 hd), sz_at h3.2 hd⟩, hK⟩
      · rw [List.nil_append]
        have e : xs.map (fun d => D.bl (partB (2 * c) d)) = (xs.map fun d => partB (2 * c) d).map .bl := by simp
        refine ⟨xs.map fun d => partB (2 * c) d, by rw [e]; rfl, ?_⟩
        have e3 : (xs.map fun d => partB (2 * c) d).all id = xs.all fun d => partB (2 * c) d := by simp [List.all_map, Function.comp]
        rw [e3]
        cases hb : xs.all fun d => partB (2 * c) d with
        | false =>
          have e : goalB (2 * c) (.tup xs) = false := by
            have hb' : xs.all (partB (2 * c)) = false := hb
            simp only [goalB, hb']; simp
          rw [e] at h; simpa using h
        | true =>
          obtain ⟨ps, e1, e2, e3⟩ := parts_is (List.all_eq_true.mp hb)
          simp
          refine .inr (.inr ⟨ps, by rw [e1], by rw [e1] at h3; simpa using h3.1, fun p hp => signsG_lt (e3 p hp).2.2, ?_⟩)
          have et : goalB (2 * c) (.tup xs) = rise ptLt ps := by
            have : decide (xs.length ≤ 5) = true := decide_eq_true (by omega)
            have hb' : xs.all (partB (2 * c)) = true := hb
            simp only [goalB, hb', e2, this]; simp
          rw [et] at h
          cases hr : rise ptLt ps with
          | false => rw [hr] at h; simpa using h
          | true => rw [hr] at h; simpa using h
  · have e : goalB (2 * c) d = false := by
      cases d <;> first | rfl | (rename_i xs; exact absurd rfl (no xs))
    rw [e] at h
    have ei : isiN n "tuple" = false := isi_tup n (tyN_mem hn) nt
    simp [psi_need_goal, wIsi, hn, ei]
    simpa using h
end DL
end
section
set_option maxHeartbeats 0
namespace DL
open PySem
@[simp] theorem g_tn1 (i : Nat) (is : List Nat) (d : D) (ds : List D) (r : Env) (m : Store) (K : Env → Store → Prop) : gTn i is (.tup [d, .tup ds]) r m K = (ds.length = is.length ∧ K (putAll (put r i (some d)) is ds) m) := rfl
theorem great_mem (c : Nat) : decide (c ∈ G_GREAT.cps.toList) = isGreat c := by
  have e : G_GREAT.cps.toList = List.range' 65 26 := by decide +kernel
  rw [e]
  unfold isGreat
  refine decide_eq_decide.mpr ?_
  rw [List.mem_range'_1]; omega
theorem small_mem (c : Nat) : decide (c ∈ G_LETTERS.cps.toList) = isSmall c := by
  have e : G_LETTERS.cps.toList = List.range' 97 26 := by decide +kernel
  rw [e]
  unfold isSmall
  refine decide_eq_decide.mpr ?_
  rw [List.mem_range'_1]; omega
theorem in_nums (i : Nat) (l : List Nat) : inD (.int (i : Nat)) (numsD l) = decide (i ∈ l) := by
  unfold inD numsD
  rw [Bool.eq_iff_iff]
  simp only [List.any_eq_true, List.mem_map, decide_eq_true_eq]
  constructor
  · rintro ⟨d, ⟨j, hj, rfl⟩, e⟩
    simp only [eqD, decide_eq_true_eq] at e
    have : j = i := by omega
    rw [← this]; exact hj
  · intro h
    exact ⟨_, ⟨i, h, rfl⟩, by simp [eqD]⟩
theorem flat_nums (l : List Nat) : (numsD l).all flatD = true := by
  simp [numsD, flatD]
theorem in_chs (k : Nat) (dead : List Nat) : inD (ch k) (dead.map ch) = decide (k ∈ dead) := by
  simp only [inD, List.any_map]
  rw [Bool.eq_iff_iff]
  simp [eqD, Function.comp]
theorem strikesN_len (g : Gm) (s : Sn) : ∀ (i : Nat) (ps : List Pt), (strikesN g s i ps).length ≤ ps.length
  | _, [] => Nat.le_refl _
  | i, p :: r => by
    have := strikesN_len g s (i + 1) r
    simp only [strikesN, List.length_append, List.length_cons]
    split
    · simp; omega
    · simp; omega
theorem lc_gen {α : Type} {G : Store → Prop} {vs : List Nat} {g : WG} {t : WT} {e : WE} {r : Env} {m : Store} (f u : α → D) (rr : α → Env) (p : α → Bool) (hG : G m) : ∀ (xs : List α) (acc : List D) (K : List D → Store → Prop), acc.length + xs.length ≤ LIM →
    (∀ a ∈ xs, ∀ K' : Env → Store → Prop, K' (rr a) m → g (f a) (wipeD r vs) m K') → (∀ a ∈ xs, ∀ K2 : Bool → Store → Prop, K2 (p a) m → t (rr a) m K2 (fun _ _ => False)) → (∀ a ∈ xs, p a = true → ∀ K1 : KD, K1 (u a) m → e (rr a) m K1 (fun _ _ => False)) → K (acc ++ (xs.filter p).map u) m → wLcL G vs g t e r (xs.map f) acc m K
  | [], acc, K, _, _, _, _, q => ⟨hG, by simpa using q⟩
  | d :: ds, acc, K, hl, hg, h, h', q => by
    simp only [List.length_cons] at hl
    refine ⟨hG, hg d List.mem_cons_self _ (h d List.mem_cons_self _ ?_)⟩
    have ih := fun acc' hl' => lc_gen f u rr p hG ds acc' K hl' (fun a ha => hg a (List.mem_cons_of_mem _ ha)) (fun a ha => h a (List.mem_cons_of_mem _ ha)) (fun a ha => h' a (List.mem_cons_of_mem _ ha))
    cases hp : p d with
    | false =>
      simp only [Bool.false_eq_true, if_false]
      exact ih acc (by omega) (by simpa [hp] using q)
    | true =>
      simp only [if_true]
      exact h' d List.mem_cons_self hp _ ⟨by omega, ih (acc ++ [u d]) (by simp; omega) (by simpa [hp] using q)⟩
def mvD (q : Ky × Int) : D := .tup [wordD (kyW q.1), .int q.2]
theorem movesN_len (g : Gm) (s : Sn) : (movesN g s).length ≤ 4 := by
  unfold movesN
  simp only [List.length_append, List.length_map, List.length_cons, List.length_nil, List.length_take]
  omega
theorem movesN_ky (g : Gm) (s : Sn) : ∀ q ∈ movesN g s, kyD q.1 = .tup [wordD (kyW q.1)] := by
  intro q hq
  unfold movesN at hq
  simp only [List.mem_append, List.mem_cons, List.not_mem_nil, or_false, List.mem_map] at hq
  rcases hq with (rfl | rfl | rfl) | ⟨t, _, rfl⟩ <;> rfl
def redI (b : Bool) : Int := if b = true then 1 else 0
variable {A : Ad} (hA : AdOk A)
include hA
theorem dt_can_strike : ∀ ds m R x, ph_can_strike A ds m R x → psi_can_strike A (startD 2 ds) m (endD R x) := by
  rintro ds m R x ⟨c, b, rfl, h⟩
  have e0 : startD 2 [ch c, .bl b] = [some (ch c), some (.bl b)] := rfl
  rw [e0]
  simp only [psi_can_strike, s_seq, s_if, s_set, s_ret, s_retN, s_next, s_exp, s_asg, s_for, s_par, s_raise, e_test, e_not, e_and, e_or, e_andV, e_orV, e_notV, e_op, e_un, e_if, e_call, e_callB, e_cons, e_nil, e_tup, e_lst, e_nwF, e_c, e_var, e_sl, e_oSome, e_oNone, e_chain, e_lc, e_seqI, e_mt, e_frz, e_fgt, g_nm, g_tp, putAllS, putAll0, wipeS, wipe0, getS, get0, putS, put0, ok_some]
  refine ⟨c, rfl, ?_⟩
  rw [great_mem]
  simp only [canB] at h
  cases hg : isGreat c with
  | true => rw [hg] at h; simpa using h
  | false =>
    rw [hg] at h
    cases b with
    | false => simpa using h
    | true =>
      refine ⟨c, rfl, ?_⟩
      rw [small_mem]
      simpa using h
theorem dt_steps_on : ∀ ds m R x, ph_steps_on A ds m R x → psi_steps_on A (startD 20 ds) m (endD R x) := by
  rintro ds m R x ⟨c, dead, dn, ts, ps, s, rfl, hM, hG, hS, h⟩
  have L : LIM = 16777216 := rfl
  have e0 : startD 20 [machD c dead dn, .tup (ts.map .int), snD s, .tup (ps.map ptD)] = [some (machD c dead dn), some (.tup (ts.map .int)), some (snD s), some (.tup (ps.map ptD)), none, none, none, none, none, none, none, none, none, none, none, none, none, none, none, none] := rfl
  rw [e0]
  have es : snD s = .tup [.int s.place, .int (redI s.red), .bl s.caps, .tup (numsD s.left)] := rfl
  simp only [psi_steps_on, es, s_seq, s_if, s_set, s_ret, s_retN, s_next, s_exp, s_asg, s_for, s_par, s_raise, e_test, e_not, e_and, e_or, e_andV, e_orV, e_notV, e_op, e_un, e_if, e_call, e_callB, e_cons, e_nil, e_tup, e_lst, e_nwF, e_c, e_var, e_sl, e_oSome, e_oNone, e_chain, e_lc, e_seqI, e_mt, e_frz, e_fgt, g_nm, g_tp, putAllS, putAll0, wipeS, wipe0, getS, get0, putS, put0, ok_some]
  refine ⟨rfl, ?_⟩
  simp only [psi_steps_on_t1, s_seq, s_if, s_set, s_ret, s_retN, s_next, s_exp, s_asg, s_for, s_par, s_raise, e_test, e_not, e_and, e_or, e_andV, e_orV, e_notV, e_op, e_un, e_if, e_call, e_callB, e_cons, e_nil, e_tup, e_lst, e_nwF, e_c, e_var, e_sl, e_oSome, e_oNone, e_chain, e_lc, e_seqI, e_mt, e_frz, e_fgt, g_nm, g_tp, putAllS, putAll0, wipeS, wipe0, getS, get0, putS, put0, ok_some]
  refine ⟨rfl, c, dead, dn, rfl, hM, ?_⟩
  simp only [psi_steps_on_t2, s_seq, s_if, s_set, s_ret, s_retN, s_next, s_exp, s_asg, s_for, s_par, s_raise, e_test, e_not, e_and, e_or, e_andV, e_orV, e_notV, e_op, e_un, e_if, e_call, e_callB, e_cons, e_nil, e_tup, e_lst, e_nwF, e_c, e_var, e_sl, e_oSome, e_oNone, e_chain, e_lc, e_seqI, e_mt, e_frz, e_fgt, g_nm, g_tp, putAllS, putAll0, wipeS, wipe0, getS, get0, putS, put0, ok_some]
  refine ⟨by decide, ?_⟩
  intro a na
  simp only [psi_steps_on_t3, iEnumA, s_seq, s_if, s_set, s_ret, s_retN, s_next, s_exp, s_asg, s_for, s_par, s_raise, e_test, e_not, e_and, e_or, e_andV, e_orV, e_notV, e_op, e_un, e_if, e_call, e_callB, e_cons, e_nil, e_tup, e_lst, e_nwF, e_c, e_var, e_sl, e_oSome, e_oNone, e_chain, e_lc, e_seqI, e_mt, e_frz, e_fgt, g_nm, g_tp, putAllS, putAll0, wipeS, wipe0, getS, get0, putS, put0, ok_some]
  have hcol : ∀ (b : Bool) (m : Store) (K : KD), wIx (.tup G_COLOURS) (.int (redI b)) m K = K (colD b) m := fun b m K => by cases b <;> rfl
  have heq : ∀ (a b : Bool) (m : Store) (K : KD), wEq (colD a) (colD b) m K = K (.bl (decide (a = b))) m := fun a b m K => by
    cases a <;> cases b
    · simp [colD, wordD, wEq]
    · simp [colD, wordD, wEq]
    · simp [colD, wordD, wEq]
    · simp [colD, wordD, wEq]
  have hei : ∀ (i j : Int) (m : Store) (K : KD), wEq (.int i) (.int j) m K = K (.bl (decide (i = j))) m := fun _ _ _ _ => rfl
  have hl5 : ps.length ≤ 5 := hG.2.2.2.2.l
  have hll : s.left.length ≤ 5 := by
    have := hS.2.2.length_le
    simp only [List.length_range] at this
    exact Nat.le_trans this hl5
  refine for_inv (fun rest r m' => ∃ i qs acc o1 o2 o3 o4 o5 o6, rest = enumD i (qs.map ptD) ∧ r = [some (machD c dead dn), some (.tup (ts.map .int)), some (.tup [.int s.place, .int (redI s.red), .bl s.caps, .tup (numsD s.left)]), some (.tup (ps.map ptD)), some (.int s.place), some (.int (redI s.red)), some (.bl s.caps), some (.tup (numsD s.left)), some (.int (2 * c)), some (.ref a), o1, o2, o3, o4, o5, o6, none, none, none, none] ∧ m' = sup m a (.lst (acc.map ksD)) ∧ acc ++ strikesN ⟨2 * c, dead, ts, ps⟩ s i qs = strikesN ⟨2 * c, dead, ts, ps⟩ s 0 ps) _ _ _ ⟨0, ps, [], none, none, none, none, none, none, rfl, rfl, rfl, rfl⟩ ?_ ?_
  · rintro d ds' r m' ⟨i, qs, acc, o1, o2, o3, o4, o5, o6, e1, rfl, rfl, e4⟩ P hP
    refine ⟨trivial, ?_⟩
    cases qs with
    | nil => cases e1
    | cons p qs =>
      have e1' : d = .tup [.int (i : Nat), ptD p] ∧ ds' = enumD (i + 1) (qs.map ptD) := by
        simp only [List.map_cons, enumD, List.cons.injEq] at e1
        exact e1
      obtain ⟨rfl, rfl⟩ := e1'
      have ep : ptD p = .tup [.int p.place, ch p.sign, colD p.red] := rfl
      have hacc : acc.length ≤ 5 := by
        have h1 := strikesN_len ⟨2 * c, dead, ts, ps⟩ s 0 ps
        rw [← e4] at h1
        simp only [List.length_append] at h1
        omega
      simp only [ep, g_tn1, s_seq, s_if, s_set, s_ret, s_retN, s_next, s_exp, s_asg, s_for, s_par, s_raise, e_test, e_not, e_and, e_or, e_andV, e_orV, e_notV, e_op, e_un, e_if, e_call, e_callB, e_cons, e_nil, e_tup, e_lst, e_nwF, e_c, e_var, e_sl, e_oSome, e_oNone, e_chain, e_lc, e_seqI, e_mt, e_frz, e_fgt, g_nm, g_tp, putAllS, putAll0, wipeS, wipe0, getS, get0, putS, put0, ok_some]
      refine ⟨rfl, ?_⟩
      have hin : ∀ (m : Store) (K : KD), K (.bl (decide (i ∈ s.left))) m → wIn (.int (i : Nat)) (.tup (numsD s.left)) m K := fun m K hK => ⟨rfl, flat_nums _, by rw [in_nums]; exact hK⟩
      refine hin _ _ ?_
      have nohit : hit ⟨2 * c, dead, ts, ps⟩ s i p = false → P [some (machD c dead dn), some (.tup (ts.map .int)), some (.tup [.int s.place, .int (redI s.red), .bl s.caps, .tup (numsD s.left)]), some (.tup (ps.map ptD)), some (.int s.place), some (.int (redI s.red)), some (.bl s.caps), some (.tup (numsD s.left)), some (.int (2 * c)), some (.ref a), some (.int (i : Nat)), some (.int p.place), some (ch p.sign), some (colD p.red), o5, o6, none, none, none, none] (sup m a (.lst (acc.map ksD))) := fun hh => by
        refine hP _ _ ⟨i + 1, qs, acc, _, _, _, _, _, _, rfl, rfl, rfl, ?_⟩
        rw [← e4]
        simp only [strikesN, hh, Bool.false_eq_true, if_false, List.nil_append]
      cases h1 : decide (i ∈ s.left) with
      | false => exact nohit (by simp only [hit, h1]; rfl)
      | true =>
        simp only [hei, if_true]
        cases h2 : decide (p.place = s.place) with
        | false => exact nohit (by simp only [hit, h1, h2]; rfl)
        | true =>
          simp only [hcol, heq, if_true]
          cases h3 : decide (p.red = s.red) with
          | false => exact nohit (by simp only [hit, h1, h2, h3]; rfl)
          | true =>
            simp only [if_true]
            refine ⟨rfl, p.sign, s.caps, rfl, ?_⟩
            cases h4 : canB p.sign s.caps with
            | false => exact nohit (by simp only [hit, h1, h2, h3, h4]; rfl)
            | true =>
              have eadd : ∀ (i j : Int) (m : Store) (K : KD), wAdd false (.int i) (.int j) m K = K (.int (i + j)) m := fun _ _ _ _ => rfl
              have ele : ∀ (i j : Int) (m : Store) (K : KD), wLe (.int i) (.int j) m K = K (.bl (decide (i ≤ j))) m := fun _ _ _ _ => rfl
              simp only [if_true, eadd, ele]
              cases h5 : decide (s.place + 2 ≤ 2 * c) with
              | false => exact nohit (by simp only [hit, h1, h2, h3, h4, h5]; rfl)
              | true =>
                have hh : hit ⟨2 * c, dead, ts, ps⟩ s i p = true := by simp only [hit, h1, h2, h3, h4, h5]; rfl
                simp only [if_true, mach1]
                refine ⟨rfl, by simp [flatD], ?_⟩
                rw [in_chs]
                have fin : ∀ (q : Int), q = (if p.sign ∈ dead then s.place else s.place + 2) → ∀ o, P [some (machD c dead dn), some (.tup (ts.map .int)), some (.tup [.int s.place, .int (redI s.red), .bl s.caps, .tup (numsD s.left)]), some (.tup (ps.map ptD)), some (.int s.place), some (.int (redI s.red)), some (.bl s.caps), some (.tup (numsD s.left)), some (.int (2 * c)), some (.ref a), some (.int (i : Nat)), some (.int p.place), some (ch p.sign), some (colD p.red), some (.int q), o, none, none, none, none] (sup m a (.lst (acc.map ksD ++ [.tup [kS (loC p.sign), .tup [.int q, .int (redI s.red), .bl s.caps, .tup (numsD (s.left.filter fun j => decide (j ≠ i)))]]]))) := fun q hq o => by
                  refine hP _ _ ⟨i + 1, qs, acc ++ [struckN ⟨2 * c, dead, ts, ps⟩ s i p], _, _, _, _, _, _, rfl, rfl, ?_, ?_⟩
                  · rw [hq]; simp only [List.map_append, List.map_cons, List.map_nil]; rfl
                  · rw [← e4]
                    simp only [strikesN, hh, if_true, List.append_assoc]
                have hfil : ∀ (r : Env) (m1 : Store) (K : List D → Store → Prop), get r 10 = some (.int (i : Nat)) → (∀ d, get (put (wipeD r [17]) 17 (some d)) 17 = some d) → (∀ d, get (put (wipeD r [17]) 17 (some d)) 10 = some (.int (i : Nat))) → K (numsD (s.left.filter fun j => decide (j ≠ i))) m1 → wLcL (fun _ => True) [17] (gNm 17) (wTest (wOp wNe (wVar 17) (wVar 10))) (wVar 17) r (numsD s.left) [] m1 K := fun r m1 K g10 g17 g10' hK => by
                  refine lc_filter (fun j : Nat => D.int (j : Nat)) (fun j => decide (j ≠ i)) trivial g17 s.left [] K (by simp only [List.length_nil]; omega) (fun j hj K2 h2' => ?_) (by simpa [numsD] using hK)
                  simp only [e_test, e_op, e_var, g17, g10', ok_some, wNe, hei]
                  have : (!decide ((j : Int) = (i : Int))) = decide (j ≠ i) := by
                    by_cases z : j = i
                    · simp [z]
                    · have : ¬ ((j : Int) = (i : Int)) := by omega
                      simp [z, this]
                  rw [this]
                  exact h2'
                cases hd : decide (p.sign ∈ dead) with
                | true =>
                  simp only [if_true]
                  refine hfil _ _ _ rfl (fun _ => rfl) (fun _ => rfl) ?_
                  simp only [wTuple, asQ, asL, ok_some]
                  refine ⟨by simp [tyM, sup_same], rfl, p.sign, rfl, by show 4 ≤ LIM; decide, by show 2 ≤ LIM; decide, _, sup_same, by simp; omega, ?_⟩
                  rw [sup_sup]
                  exact fin _ (by simp at hd; simp [hd]) _
                | false =>
                  simp only [Bool.false_eq_true, if_false, eadd]
                  refine hfil _ _ _ rfl (fun _ => rfl) (fun _ => rfl) ?_
                  simp only [wTuple, asQ, asL, ok_some]
                  refine ⟨by simp [tyM, sup_same], rfl, p.sign, rfl, by show 4 ≤ LIM; decide, by show 2 ≤ LIM; decide, _, sup_same, by simp; omega, ?_⟩
                  rw [sup_sup]
                  exact fin _ (by simp at hd; simp [hd]) _
  · rintro r m' ⟨i, qs, acc, o1, o2, o3, o4, o5, o6, e1, rfl, rfl, e4⟩
    refine ⟨trivial, ?_⟩
    cases qs with
    | cons p qs => cases e1
    | nil =>
      simp only [strikesN, List.append_nil] at e4
      subst e4
      simp only [psi_steps_on_t4, s_seq, s_if, s_set, s_ret, s_retN, s_next, s_exp, s_asg, s_for, s_par, s_raise, e_test, e_not, e_and, e_or, e_andV, e_orV, e_notV, e_op, e_un, e_if, e_call, e_callB, e_cons, e_nil, e_tup, e_lst, e_nwF, e_c, e_var, e_sl, e_oSome, e_oNone, e_chain, e_lc, e_seqI, e_mt, e_frz, e_fgt, g_nm, g_tp, putAllS, putAll0, wipeS, wipe0, getS, get0, putS, put0, ok_some]
      refine ⟨by show 2 ≤ LIM; decide, by show 2 ≤ LIM; decide, by show 2 ≤ LIM; decide, by show 3 ≤ LIM; decide, fun b nb => ?_⟩
      have nab : a ≠ b := fun e => by subst e; rw [sup_same] at nb; cases nb
      have nb' : m b = none := by rw [sup_ne (Ne.symm nab)] at nb; exact nb
      have ltl : ts.length ≤ 6 := hG.2.2.2.1.l
      simp only [psi_steps_on_t5, s_seq, s_if, s_set, s_ret, s_retN, s_next, s_exp, s_asg, s_for, s_par, s_raise, e_test, e_not, e_and, e_or, e_andV, e_orV, e_notV, e_op, e_un, e_if, e_call, e_callB, e_cons, e_nil, e_tup, e_lst, e_nwF, e_c, e_var, e_sl, e_oSome, e_oNone, e_chain, e_lc, e_seqI, e_mt, e_frz, e_fgt, g_nm, g_tp, putAllS, putAll0, wipeS, wipe0, getS, get0, putS, put0, ok_some]
      refine ⟨by simp [tyM, sup_same], ?_⟩
      refine lc_filter D.int (fun t => decide (s.place < t)) trivial (fun _ => rfl) ts [] _ (by simp only [List.length_nil]; omega) (fun t ht K2 h2 => h2) ?_
      have ecut : cutL ([] ++ (ts.filter fun t => decide (s.place < t)).map D.int) none (some 1) = ((ts.filter fun t => decide (s.place < t)).take 1).map D.int := by
        rw [List.nil_append, List.map_take]
        generalize (ts.filter fun t => decide (s.place < t)).map D.int = l
        cases l with
        | nil => rfl
        | cons y l => simp [cutL, sIxD]
      have hcut : ∀ (xs : List D) (lo hi : Option Int) (m : Store) (K : KD), wCut false (.lst xs) lo hi m K = K (.lst (cutL xs lo hi)) m := fun _ _ _ _ _ => rfl
      rw [hcut, ecut]
      have hone : ((ts.filter fun t => decide (s.place < t)).take 1).length ≤ 1 := by rw [List.length_take]; omega
      refine lc_map D.int (fun t => .tup [wordD "tab", .int t]) trivial _ [] _ (by simp only [List.length_nil]; omega) (fun t ht K1 h1 => ⟨by show 2 ≤ LIM; decide, h1⟩) ?_
      refine ⟨_, _, sup_same, rfl, by simp; omega, ?_⟩
      rw [sup_sup]
      have emv : [D.tup [D.str (PySem.Str.ofString "blank"), D.int (s.place + 2)], D.tup [D.str (PySem.Str.ofString "half"), D.int (s.place + 1)], D.tup [D.str (PySem.Str.ofString "back"), D.int (s.place - 2)]] ++ ([] ++ ((ts.filter fun t => decide (s.place < t)).take 1).map fun t => D.tup [wordD "tab", .int t]) = (movesN ⟨2 * c, dead, ts, ps⟩ s).map mvD := by
        simp only [movesN, List.nil_append, List.map_append, List.map_cons, List.map_nil, List.map_map]
        rfl
      rw [emv]
      have hm4 := movesN_len ⟨2 * c, dead, ts, ps⟩ s
      have hs5 := strikesN_len ⟨2 * c, dead, ts, ps⟩ s 0 ps
      have hsub : Sub m (sup (sup m a (.lst ((strikesN ⟨2 * c, dead, ts, ps⟩ s 0 ps).map ksD))) b (.lst ((movesN ⟨2 * c, dead, ts, ps⟩ s).map mvD))) := fun q o hq => by
        rw [sup_ne (fun z => by subst z; rw [nb'] at hq; cases hq), sup_ne (fun z => by subst z; rw [na] at hq; cases hq)]; exact hq
      have h1a : (sup (sup m a (.lst ((strikesN ⟨2 * c, dead, ts, ps⟩ s 0 ps).map ksD))) b (.lst ((movesN ⟨2 * c, dead, ts, ps⟩ s).map mvD))) a = some (.lst ((strikesN ⟨2 * c, dead, ts, ps⟩ s 0 ps).map ksD)) := by rw [sup_ne nab, sup_same]
      have h1b : (sup (sup m a (.lst ((strikesN ⟨2 * c, dead, ts, ps⟩ s 0 ps).map ksD))) b (.lst ((movesN ⟨2 * c, dead, ts, ps⟩ s).map mvD))) b = some (.lst ((movesN ⟨2 * c, dead, ts, ps⟩ s).map mvD)) := sup_same
      generalize sup (sup m a (.lst ((strikesN ⟨2 * c, dead, ts, ps⟩ s 0 ps).map ksD))) b (.lst ((movesN ⟨2 * c, dead, ts, ps⟩ s).map mvD)) = m1 at hsub h1a h1b ⊢
      simp only [psi_steps_on_t6, s_seq, s_if, s_set, s_ret, s_retN, s_next, s_exp, s_asg, s_for, s_par, s_raise, e_test, e_not, e_and, e_or, e_andV, e_orV, e_notV, e_op, e_un, e_if, e_call, e_callB, e_cons, e_nil, e_tup, e_lst, e_nwF, e_c, e_var, e_sl, e_oSome, e_oNone, e_chain, e_lc, e_seqI, e_mt, e_frz, e_fgt, g_nm, g_tp, putAllS, putAll0, wipeS, wipe0, getS, get0, putS, put0, ok_some]
      refine ⟨by simp [tyM, h1a], ?_⟩
      simp only [asI, h1b]
      refine lc_gen mvD (fun q => ksD (q.1, { s with place := q.2 })) (fun q => [some (machD c dead dn), some (.tup (ts.map .int)), some (.tup [.int s.place, .int (redI s.red), .bl s.caps, .tup (numsD s.left)]), some (.tup (ps.map ptD)), some (.int s.place), some (.int (redI s.red)), some (.bl s.caps), some (.tup (numsD s.left)), some (.int (2 * c)), some (.ref a), o1, o2, o3, o4, some (.int q.2), o6, some (.ref b), none, none, some (wordD (kyW q.1))]) (fun q => inB ⟨2 * c, dead, ts, ps⟩ q.2) h1b _ [] _ (by simp only [List.length_nil]; omega) (fun q hq K' hK => ⟨rfl, hK⟩) (fun q hq K2 hK => ?_) (fun q hq hp K1 hK => ?_) ?_
      · simp only [wLe, s_seq, s_if, s_set, s_ret, s_retN, s_next, s_exp, s_asg, s_for, s_par, s_raise, e_test, e_not, e_and, e_or, e_andV, e_orV, e_notV, e_op, e_un, e_if, e_call, e_callB, e_cons, e_nil, e_tup, e_lst, e_nwF, e_c, e_var, e_sl, e_oSome, e_oNone, e_chain, e_lc, e_seqI, e_mt, e_frz, e_fgt, g_nm, g_tp, putAllS, putAll0, wipeS, wipe0, getS, get0, putS, put0, ok_some]
        simp only [inB] at hK
        cases hz : decide (0 ≤ q.2) with
        | false => rw [hz] at hK; simpa using hK
        | true => rw [hz] at hK; simpa using hK
      · simp only [s_seq, s_if, s_set, s_ret, s_retN, s_next, s_exp, s_asg, s_for, s_par, s_raise, e_test, e_not, e_and, e_or, e_andV, e_orV, e_notV, e_op, e_un, e_if, e_call, e_callB, e_cons, e_nil, e_tup, e_lst, e_nwF, e_c, e_var, e_sl, e_oSome, e_oNone, e_chain, e_lc, e_seqI, e_mt, e_frz, e_fgt, g_nm, g_tp, putAllS, putAll0, wipeS, wipe0, getS, get0, putS, put0, ok_some]
        refine ⟨by show 1 ≤ LIM; decide, by show 4 ≤ LIM; decide, by show 2 ≤ LIM; decide, ?_⟩
        have := movesN_ky ⟨2 * c, dead, ts, ps⟩ s q hq
        simp only [ksD, this] at hK
        exact hK
      · refine ⟨_, _, h1a, rfl, ?_, ?_⟩
        · have := List.length_filter_le (fun q : Ky × Int => inB ⟨2 * c, dead, ts, ps⟩ q.2) (movesN ⟨2 * c, dead, ts, ps⟩ s)
          simp only [List.nil_append, List.length_map]; omega
        · have hfl := List.length_filter_le (fun q : Ky × Int => inB ⟨2 * c, dead, ts, ps⟩ q.2) (movesN ⟨2 * c, dead, ts, ps⟩ s)
          simp only [psi_steps_on_t7, s_seq, s_if, s_set, s_ret, s_retN, s_next, s_exp, s_asg, s_for, s_par, s_raise, e_test, e_not, e_and, e_or, e_andV, e_orV, e_notV, e_op, e_un, e_if, e_call, e_callB, e_cons, e_nil, e_tup, e_lst, e_nwF, e_c, e_var, e_sl, e_oSome, e_oNone, e_chain, e_lc, e_seqI, e_mt, e_frz, e_fgt, g_nm, g_tp, putAllS, putAll0, wipeS, wipe0, getS, get0, putS, put0, ok_some]
          refine ⟨by simp [tyM, sup_same], by show 1 ≤ LIM; decide, ?_⟩
          refine ⟨by show 4 ≤ LIM; decide, by show 2 ≤ LIM; decide, _, sup_same, by simp; omega, ?_⟩
          rw [sup_sup]
          simp only [psi_steps_on_t8, s_seq, s_if, s_set, s_ret, s_retN, s_next, s_exp, s_asg, s_for, s_par, s_raise, e_test, e_not, e_and, e_or, e_andV, e_orV, e_notV, e_op, e_un, e_if, e_call, e_callB, e_cons, e_nil, e_tup, e_lst, e_nwF, e_c, e_var, e_sl, e_oSome, e_oNone, e_chain, e_lc, e_seqI, e_mt, e_frz, e_fgt, g_nm, g_tp, putAllS, putAll0, wipeS, wipe0, getS, get0, putS, put0, ok_some]
          refine ⟨by simp [tyM, sup_same], by show 1 ≤ LIM; decide, by show 4 ≤ LIM; decide, by show 2 ≤ LIM; decide, _, sup_same, by simp; omega, ?_⟩
          rw [sup_sup]
          simp only [psi_steps_on_t9, s_seq, s_if, s_set, s_ret, s_retN, s_next, s_exp, s_asg, s_for, s_par, s_raise, e_test, e_not, e_and, e_or, e_andV, e_orV, e_notV, e_op, e_un, e_if, e_call, e_callB, e_cons, e_nil, e_tup, e_lst, e_nwF, e_c, e_var, e_sl, e_oSome, e_oNone, e_chain, e_lc, e_seqI, e_mt, e_frz, e_fgt, g_nm, g_tp, putAllS, putAll0, wipeS, wipe0, getS, get0, putS, put0, ok_some]
          refine ⟨_, _, rfl, sup_same, m, fun q o hq => ?_, ?_⟩
          · have hqa : q ≠ a := fun z => by subst z; rw [na] at hq; cases hq
            unfold sdel
            rw [if_neg hqa, sup_ne hqa]
            exact hsub q o hq
          · have er : 1 - redI s.red = redI (!s.red) := by cases s.red <;> rfl
            rw [er]
            simp only [stepsN, List.map_append, List.map_map, List.map_cons, List.map_nil, List.append_assoc] at h
            simp only [List.append_assoc, List.nil_append]
            exact h
end DL
end
section
set_option maxHeartbeats 0
namespace DL
open PySem
theorem numOks_nums : ∀ (l : List Nat) (n : Nat), numOks (numsD l) n = true
  | [], _ => rfl
  | i :: l, n => by
    have := numOks_nums l n
    simp only [numsD, List.map_cons, numOks] at this ⊢
    rw [this]; simp [numOk]
theorem numOk_sn (s : Sn) : numOk (snD s) 8 = true := by
  have := numOks_nums s.left 6
  simp only [snD, numOk, numOks, this]; rfl
theorem eqDs_nums : ∀ (a b : List Nat), eqDs (numsD a) (numsD b) = decide (a = b)
  | [], [] => rfl
  | [], _ :: _ => rfl
  | _ :: _, [] => rfl
  | i :: a, j :: b => by
    have ih := eqDs_nums a b
    simp only [numsD, List.map_cons, eqDs, eqD] at ih ⊢
    rw [ih]
    by_cases h1 : i = j
    · by_cases h2 : a = b <;> simp [h1, h2]
    · have : ¬ ((i : Int) = (j : Int)) := by omega
      simp [h1, this]
theorem eq_sn (s t : Sn) : eqD (snD s) (snD t) = decide (s = t) := by
  obtain ⟨p, r, c, l⟩ := s
  obtain ⟨p', r', c', l'⟩ := t
  simp only [snD, eqD, eqDs, eqDs_nums, Sn.mk.injEq]
  by_cases h1 : p = p'
  · by_cases h4 : l = l'
    · cases r <;> cases r' <;> cases c <;> cases c' <;> simp [h1, h4]
    · simp [h4]
  · simp [h1]
theorem look_fd (s : Sn) : ∀ f : Fd, lookN (fdD f) (snD s) = (lookF f s).map parD
  | [] => rfl
  | x :: f => by
    have ih := look_fd s f
    simp only [fdD, List.map_cons, lookN, lookF, eq_sn, decide_eq_true_eq] at ih ⊢
    by_cases h : x.1 = s
    · rw [if_pos h, if_pos h]; rfl
    · rw [if_neg h, if_neg h]; exact ih
theorem ok_nums : ∀ (l : List Nat) (n : Nat), dOks (numsD l) n = true := fun l n => doks_all fun d hd => by
  simp only [numsD, List.mem_map] at hd
  obtain ⟨i, _, rfl⟩ := hd
  cases n <;> rfl
theorem ok_sn (s : Sn) : dOk (snD s) 59 = true := by
  have := ok_nums s.left 57
  simp only [snD, dOk, dOks, this]; rfl
theorem snD_tup (s : Sn) : ∃ z, snD s = .tup z := ⟨_, rfl⟩
theorem fd_snoc (f : Fd) (x : Sn × Option (Ky × Sn)) : fdD (f ++ [x]) = fdD f ++ [(snD x.1, parD x.2)] := by simp [fdD]
def whW : WT := wTest (wOp wNotN (wOp wNGet (wVar 0) (wVar 1)) (wC .non))
def whB : WS := wSeq (wAsg (wOp wNGet (wVar 0) (wVar 1)) (gTp [3, 4])) (wSeq (wExp (wMt "list" wAppend (wVar 2) (wCons (wVar 3) (wNil)))) (wSet 1 (wVar 4)))
theorem way_loop {f : Fd} {a k : Addr} {m : Store} {K : SK} (hk : k ≠ a) (hf : m a = some (.dnt a (fdD f))) {s : Sn} {ks : List Ky} (h : Way f s ks) : ∀ (acc : List Ky) (o3 o4 : Option D), acc.length + ks.length < LIM →
    (∀ s' o3 o4, K.nx [some (.ref a), some (snD s'), some (.ref k), o3, o4] (sup m k (.lst ((acc ++ ks.reverse).map kyD)))) → wWhN whW whB (ks.length + 1) [some (.ref a), some (snD s), some (.ref k), o3, o4] (sup m k (.lst (acc.map kyD))) K := by
  induction h with
  | nil h =>
    rename_i s
    intro acc o3 o4 hl hK
    have hg : ∀ (m1 : Store) (R : KD), m1 a = some (.dnt a (fdD f)) → R .non m1 → wNGet (.ref a) (snD s) m1 R := fun m1 R h1 hR => ⟨fdD f, h1, numOk_sn s, snD_tup s, by rw [look_fd, h]; exact hR⟩
    show whW _ _ _ _
    simp only [whW, s_seq, s_if, s_set, s_ret, s_retN, s_next, s_exp, s_asg, s_for, s_par, s_raise, e_test, e_not, e_and, e_or, e_andV, e_orV, e_notV, e_op, e_un, e_if, e_call, e_callB, e_cons, e_nil, e_tup, e_lst, e_nwF, e_c, e_var, e_sl, e_oSome, e_oNone, e_chain, e_lc, e_seqI, e_mt, e_frz, e_fgt, g_nm, g_tp, putAllS, putAll0, wipeS, wipe0, getS, get0, putS, put0, ok_some]
    refine hg _ _ (by rw [sup_ne (Ne.symm hk)]; exact hf) ?_
    refine ⟨rfl, ?_⟩
    simpa using hK s o3 o4
  | snoc h w ih =>
    rename_i s t ky ks
    intro acc o3 o4 hl hK
    have hg : ∀ (m1 : Store) (R : KD), m1 a = some (.dnt a (fdD f)) → R (.tup [kyD ky, snD t]) m1 → wNGet (.ref a) (snD s) m1 R := fun m1 R h1 hR => ⟨fdD f, h1, numOk_sn s, snD_tup s, by rw [look_fd, h]; exact hR⟩
    have e : (ks ++ [ky]).length + 1 = (ks.length + 1) + 1 := by simp
    rw [e]
    show whW _ _ _ _
    simp only [whW, s_seq, s_if, s_set, s_ret, s_retN, s_next, s_exp, s_asg, s_for, s_par, s_raise, e_test, e_not, e_and, e_or, e_andV, e_orV, e_notV, e_op, e_un, e_if, e_call, e_callB, e_cons, e_nil, e_tup, e_lst, e_nwF, e_c, e_var, e_sl, e_oSome, e_oNone, e_chain, e_lc, e_seqI, e_mt, e_frz, e_fgt, g_nm, g_tp, putAllS, putAll0, wipeS, wipe0, getS, get0, putS, put0, ok_some]
    refine hg _ _ (by rw [sup_ne (Ne.symm hk)]; exact hf) ?_
    refine ⟨rfl, ?_⟩
    show whB _ _ _
    simp only [whB, s_seq, s_if, s_set, s_ret, s_retN, s_next, s_exp, s_asg, s_for, s_par, s_raise, e_test, e_not, e_and, e_or, e_andV, e_orV, e_notV, e_op, e_un, e_if, e_call, e_callB, e_cons, e_nil, e_tup, e_lst, e_nwF, e_c, e_var, e_sl, e_oSome, e_oNone, e_chain, e_lc, e_seqI, e_mt, e_frz, e_fgt, g_nm, g_tp, putAllS, putAll0, wipeS, wipe0, getS, get0, putS, put0, ok_some]
    refine hg _ _ (by rw [sup_ne (Ne.symm hk)]; exact hf) ?_
    simp only [s_seq, s_if, s_set, s_ret, s_retN, s_next, s_exp, s_asg, s_for, s_par, s_raise, e_test, e_not, e_and, e_or, e_andV, e_orV, e_notV, e_op, e_un, e_if, e_call, e_callB, e_cons, e_nil, e_tup, e_lst, e_nwF, e_c, e_var, e_sl, e_oSome, e_oNone, e_chain, e_lc, e_seqI, e_mt, e_frz, e_fgt, g_nm, g_tp, putAllS, putAll0, wipeS, wipe0, getS, get0, putS, put0, ok_some]
    simp only [List.length_append, List.length_cons, List.length_nil] at hl
    refine ⟨rfl, by simp [tyM, sup_same], _, sup_same, by simp; omega, ?_⟩
    rw [sup_sup]
    have := ih (acc ++ [ky]) (some (kyD ky)) (some (snD t)) (by simp; omega) (fun s' o3 o4 => by
      have := hK s' o3 o4
      simpa using this)
    rw [List.map_append] at this
    exact this
variable {A : Ad} (hA : AdOk A)
include hA
theorem dt_way_back : ∀ ds m R x, ph_way_back A ds m R x → psi_way_back A (startD 5 ds) m (endD R x) := by
  rintro ds m R x ⟨a, f, s, ks, rfl, hf, w, hl, _, h⟩
  have L : LIM = 16777216 := rfl
  have e0 : startD 5 [.ref a, snD s] = [some (.ref a), some (snD s), none, none, none] := rfl
  rw [e0]
  simp only [psi_way_back, s_seq, s_if, s_set, s_ret, s_retN, s_next, s_exp, s_asg, s_for, s_par, s_raise, e_test, e_not, e_and, e_or, e_andV, e_orV, e_notV, e_op, e_un, e_if, e_call, e_callB, e_cons, e_nil, e_tup, e_lst, e_nwF, e_c, e_var, e_sl, e_oSome, e_oNone, e_chain, e_lc, e_seqI, e_mt, e_frz, e_fgt, g_nm, g_tp, putAllS, putAll0, wipeS, wipe0, getS, get0, putS, put0, ok_some]
  refine ⟨by decide, fun k nk => ?_⟩
  have hk : k ≠ a := fun e => by subst e; rw [hf] at nk; cases nk
  refine ⟨ks.length + 1, ?_⟩
  refine way_loop hk hf w [] none none (by simp; omega) fun s' o3 o4 => ?_
  simp only [e_revL, s_seq, s_if, s_set, s_ret, s_retN, s_next, s_exp, s_asg, s_for, s_par, s_raise, e_test, e_not, e_and, e_or, e_andV, e_orV, e_notV, e_op, e_un, e_if, e_call, e_callB, e_cons, e_nil, e_tup, e_lst, e_nwF, e_c, e_var, e_sl, e_oSome, e_oNone, e_chain, e_lc, e_seqI, e_mt, e_frz, e_fgt, g_nm, g_tp, putAllS, putAll0, wipeS, wipe0, getS, get0, putS, put0, ok_some]
  simp only [asL, sup_same, ok_some]
  simp only [e_nwF, wTuple, asQ, asL, ok_some]
  refine ⟨m, fun q o hq => ?_, ?_⟩
  · rw [sup_ne (fun z => by subst z; rw [nk] at hq; cases hq)]; exact hq
  · simpa using h
end DL
end
section
set_option maxHeartbeats 0
namespace DL
open PySem
theorem look_mem (s : Sn) : ∀ f : Fd, (lookF f s).isSome = decide (s ∈ f.map (·.1))
  | [] => rfl
  | x :: f => by
    have ih := look_mem s f
    simp only [lookF, List.map_cons]
    by_cases h : x.1 = s
    · simp [h]
    · rw [if_neg h, ih]
      refine decide_eq_decide.mpr ?_
      rw [List.mem_cons]
      constructor
      · exact .inr
      · rintro (z | z)
        · exact absurd z.symm h
        · exact z
structure FdOk (g : Gm) (f : Fd) : Prop where
  nd : (f.map (·.1)).Nodup
  ok : ∀ x ∈ f, SnOk g x.1
theorem strikes_ok {g : Gm} {s : Sn} (h : SnOk g s) : ∀ (ps : List Pt) (i : Nat), ∀ q ∈ strikesN g s i ps, SnOk g q.2
  | [], _, q, hq => by cases hq
  | p :: r, i, q, hq => by
    simp only [strikesN, List.mem_append] at hq
    rcases hq with hq | hq
    · split at hq
      · rename_i hh
        simp only [List.mem_cons, List.not_mem_nil, or_false] at hq
        subst hq
        simp only [hit, Bool.and_eq_true, decide_eq_true_eq] at hh
        obtain ⟨h1, h2, h3, h4, h5⟩ := hh
        obtain ⟨h6, h7, h8⟩ := h
        refine ⟨?_, ?_, List.Sublist.trans List.filter_sublist h8⟩
        · simp only [struckN]; split <;> omega
        · simp only [struckN]; split <;> omega
      · cases hq
    · exact strikes_ok h r (i + 1) q hq
theorem steps_ok {g : Gm} {s : Sn} (h : SnOk g s) : ∀ q ∈ stepsN g s, SnOk g q.2 := by
  intro q hq
  simp only [stepsN, List.mem_append, List.mem_map, List.mem_filter, List.mem_cons, List.not_mem_nil, or_false] at hq
  rcases hq with (hq | ⟨x, ⟨_, hb⟩, rfl⟩) | rfl | rfl
  · exact strikes_ok h _ _ q hq
  · simp only [inB, Bool.and_eq_true, decide_eq_true_eq] at hb
    exact ⟨hb.1, hb.2, h.2.2⟩
  · exact ⟨h.1, h.2.1, h.2.2⟩
  · exact ⟨h.1, h.2.1, h.2.2⟩
def subsL : List Nat → List (List Nat)
  | [] => [[]]
  | x :: xs => subsL xs ++ (subsL xs).map (x :: ·)
theorem subs_len : ∀ l : List Nat, (subsL l).length = 2 ^ l.length
  | [] => rfl
  | x :: xs => by simp only [subsL, List.length_append, List.length_map, subs_len xs, List.length_cons, Nat.pow_succ]; omega
theorem mem_subs {l L : List Nat} (h : l.Sublist L) : l ∈ subsL L := by
  induction h with
  | slnil => simp [subsL]
  | cons a h ih => simp only [subsL, List.mem_append]; exact .inl ih
  | cons_cons a h ih => simp only [subsL, List.mem_append, List.mem_map]; exact .inr ⟨_, ih, rfl⟩
theorem flat_len {α β : Type} {k : Nat} {F : α → List β} : ∀ {xs : List α}, (∀ x ∈ xs, (F x).length ≤ k) → (xs.flatMap F).length ≤ xs.length * k
  | [], _ => by simp
  | x :: xs, h => by
    have ih := flat_len (xs := xs) fun y hy => h y (List.mem_cons_of_mem _ hy)
    have h0 := h x List.mem_cons_self
    simp only [List.flatMap_cons, List.length_append, List.length_cons]
    rw [Nat.succ_mul]; omega
def allSn (g : Gm) : List Sn := (List.range (g.e.toNat + 1)).flatMap fun p => [false, true].flatMap fun r => [false, true].flatMap fun c => (subsL (List.range g.ps.length)).map fun l => ⟨(p : Nat), r, c, l⟩
theorem all_len {g : Gm} (h : g.ok) : (allSn g).length ≤ 10368 := by
  have h1 : (allSn g).length ≤ (List.range (g.e.toNat + 1)).length * (2 * (2 * 32)) := by
    unfold allSn
    refine flat_len fun p _ => ?_
    refine flat_len (xs := [false, true]) fun r _ => ?_
    refine flat_len (xs := [false, true]) fun c _ => ?_
    rw [List.length_map, subs_len, List.length_range]
    exact Nat.pow_le_pow_right (by decide) h.2.2.2.2.l
  have h2 := h.2.1
  rw [List.length_range] at h1
  have : g.e.toNat + 1 ≤ 81 := by omega
  calc (allSn g).length ≤ (g.e.toNat + 1) * (2 * (2 * 32)) := h1
    _ ≤ 81 * (2 * (2 * 32)) := Nat.mul_le_mul_right _ this
    _ = 10368 := by decide
theorem mem_all {g : Gm} {s : Sn} (h : SnOk g s) : s ∈ allSn g := by
  obtain ⟨p, r, c, l⟩ := s
  obtain ⟨h1, h2, h3⟩ := h
  simp only [allSn, List.mem_flatMap, List.mem_map, List.mem_range]
  simp only at h1 h2
  refine ⟨p.toNat, by omega, r, by cases r <;> simp, c, by cases c <;> simp, l, mem_subs h3, ?_⟩
  have : ((p.toNat : Nat) : Int) = p := by omega
  rw [this]
theorem fd_len {g : Gm} (hg : g.ok) {f : Fd} (h : FdOk g f) : f.length ≤ 10368 := by
  have h1 : (f.map (·.1)).length ≤ (allSn g).length := nodup_le h.nd fun s hs => by
    obtain ⟨x, hx, rfl⟩ := List.mem_map.mp hs
    exact mem_all (h.ok x hx)
  rw [List.length_map] at h1
  exact Nat.le_trans h1 (all_len hg)
theorem fd_grow {g : Gm} {f : Fd} (h : FdOk g f) {s : Sn} {k : Option (Ky × Sn)} (hs : SnOk g s) (hn : lookF f s = none) : FdOk g (f ++ [(s, k)]) := by
  have hm := look_mem s f
  rw [hn] at hm
  have hm' : s ∉ f.map (·.1) := by simpa using hm.symm
  refine ⟨?_, fun x hx => ?_⟩
  · rw [List.map_append, List.nodup_append]
    refine ⟨h.nd, by simp, fun a ha b hb e => ?_⟩
    simp only [List.map_cons, List.map_nil, List.mem_cons, List.not_mem_nil, or_false] at hb
    subst e hb
    exact hm' ha
  · rcases List.mem_append.mp hx with z | z
    · exact h.ok x z
    · simp only [List.mem_cons, List.not_mem_nil, or_false] at z
      subst z; exact hs
end DL
end
section
set_option maxHeartbeats 0
namespace DL
open PySem
theorem e_ndisp (fa fb : WE) (r : Env) (m : Store) (R : KD) (x : XD) : wNDisp fa fb r m R x = fa r m (fun k m1 => fb r m1 (fun v m2 => numOk k 8 = true ∧ (∃ z, k = .tup z) ∧ ∀ a, m2 a = none → R (.ref a) (sup m2 a (.dnt a [(k, v)]))) x) x := rfl
theorem s_nput (d k v : WE) (r : Env) (m : Store) (c : SK) : wNPut d k v r m c = v r m (fun y m1 => d r m1 (fun u m2 => k r m2 (fun q m3 => match u with
  | .ref a => ∃ kvs, m3 a = some (.dnt a kvs) ∧ kvs.length < LIM ∧ numOk q 8 = true ∧ (∃ z, q = .tup z) ∧ lookN kvs q = none ∧ c.nx r (sup m3 a (.dnt a (kvs ++ [(q, y)])))
  | _ => False) c.ex) c.ex) c.ex := rfl
theorem e_tupRg (a : WE) (r : Env) (m : Store) (R : KD) (x : XD) : wTupRg a r m R x = a r m (fun u m1 => match u with | .int n => 0 ≤ n ∧ n ≤ 1000000 ∧ R (.tup (rgD n.toNat)) m1 | _ => False) x := rfl
structure FS (m : Store) (fa rw la : Addr) (row : List Sn) (f : Fd) (new : List Sn) (m1 : Store) : Prop where
  sub : Sub m m1
  nf : m fa = none
  nr : m rw = none
  nl : m la = none
  fr : fa ≠ rw
  fl : fa ≠ la
  rl : rw ≠ la
  hf : m1 fa = some (.dnt fa (fdD f))
  hr : m1 rw = some (.lst (row.map snD))
  hl : m1 la = some (.lst (new.map snD))
def gB : WS := wIfS (wTest (wOp wNNotIn (wVar 9) (wVar 4))) (wSeq (wNPut (wVar 4) (wVar 9) (wTup (wCons (wVar 8) (wCons (wVar 7) (wNil))))) (wExp (wMt "list" wAppend (wVar 6) (wCons (wVar 9) (wNil))))) (wNext)
theorem grow_loop {g : Gm} (hg : g.ok) {m : Store} {fa rw la : Addr} {row : List Sn} {d0 d1 d2 d3 : Option D} {s : Sn} {k : SK} : ∀ (qs : List (Ky × Sn)) (f : Fd) (new : List Sn) (m1 : Store) (o8 o9 : Option D), (∀ q ∈ qs, SnOk g q.2) → FdOk g f → new.length ≤ f.length → FS m fa rw la row f new m1 →
    (∀ m' o8 o9, FS m fa rw la row (growN s qs f new).1 (growN s qs f new).2 m' → FdOk g (growN s qs f new).1 → (growN s qs f new).2.length ≤ (growN s qs f new).1.length → k.nx [d0, d1, d2, d3, some (.ref fa), some (.ref rw), some (.ref la), some (snD s), o8, o9] m') →
    wForL (fun _ => True) (gTp [8, 9]) gB (qs.map ksD) [d0, d1, d2, d3, some (.ref fa), some (.ref rw), some (.ref la), some (snD s), o8, o9] m1 k
  | [], f, new, m1, o8, o9, _, hf, hn, F, hk => ⟨trivial, hk m1 o8 o9 F hf hn⟩
  | q :: qs, f, new, m1, o8, o9, hq, hf, hn, F, hk => by
    have L : LIM = 16777216 := rfl
    have hlen := fd_len hg hf
    have ih := fun f' new' m' a b c d => grow_loop hg (m := m) (fa := fa) (rw := rw) (la := la) (row := row) (d0 := d0) (d1 := d1) (d2 := d2) (d3 := d3) (s := s) (k := k) qs f' new' m' (some (kyD q.1)) (some (snD q.2)) (fun z hz => hq z (List.mem_cons_of_mem _ hz)) a b c d
    have eq : ksD q = .tup [kyD q.1, snD q.2] := rfl
    refine ⟨trivial, ?_⟩
    rw [eq]
    simp only [s_seq, s_if, s_set, s_ret, s_retN, s_next, s_exp, s_asg, s_for, s_par, s_raise, e_test, e_not, e_and, e_or, e_andV, e_orV, e_notV, e_op, e_un, e_if, e_call, e_callB, e_cons, e_nil, e_tup, e_lst, e_nwF, e_c, e_var, e_sl, e_oSome, e_oNone, e_chain, e_lc, e_seqI, e_mt, e_frz, e_fgt, g_nm, g_tp, putAllS, putAll0, wipeS, wipe0, getS, get0, putS, put0, ok_some]
    refine ⟨rfl, ?_⟩
    simp only [gB, s_seq, s_if, s_set, s_ret, s_retN, s_next, s_exp, s_asg, s_for, s_par, s_raise, e_test, e_not, e_and, e_or, e_andV, e_orV, e_notV, e_op, e_un, e_if, e_call, e_callB, e_cons, e_nil, e_tup, e_lst, e_nwF, e_c, e_var, e_sl, e_oSome, e_oNone, e_chain, e_lc, e_seqI, e_mt, e_frz, e_fgt, g_nm, g_tp, putAllS, putAll0, wipeS, wipe0, getS, get0, putS, put0, ok_some]
    refine ⟨fdD f, F.hf, numOk_sn _, snD_tup _, ?_⟩
    have hlk : (lookN (fdD f) (snD q.2)).isSome = (lookF f q.2).isSome := by rw [look_fd]; cases lookF f q.2 <;> rfl
    rw [hlk]
    cases hs : lookF f q.2 with
    | some z =>
      have e : growN s (q :: qs) f new = growN s qs f new := by simp only [growN, hs, Option.isSome, if_true]
      rw [e] at hk
      exact ih f new m1 hf hn F hk
    | none =>
      have e : growN s (q :: qs) f new = growN s qs (f ++ [(q.2, some (q.1, s))]) (new ++ [q.2]) := by simp only [growN, hs, Option.isSome, Bool.false_eq_true, if_false]
      rw [e] at hk
      have hf' : FdOk g (f ++ [(q.2, some (q.1, s))]) := fd_grow hf (hq q List.mem_cons_self) hs
      simp only [Option.isSome, Bool.not_false, if_true]
      simp only [s_nput, s_seq, s_if, s_set, s_ret, s_retN, s_next, s_exp, s_asg, s_for, s_par, s_raise, e_test, e_not, e_and, e_or, e_andV, e_orV, e_notV, e_op, e_un, e_if, e_call, e_callB, e_cons, e_nil, e_tup, e_lst, e_nwF, e_c, e_var, e_sl, e_oSome, e_oNone, e_chain, e_lc, e_seqI, e_mt, e_frz, e_fgt, g_nm, g_tp, putAllS, putAll0, wipeS, wipe0, getS, get0, putS, put0, ok_some]
      refine ⟨by show 2 ≤ LIM; decide, fdD f, F.hf, by simp only [fdD, List.length_map]; omega, numOk_sn _, snD_tup _, by rw [look_fd, hs]; rfl, ?_⟩
      have F1 : FS m fa rw la row (f ++ [(q.2, some (q.1, s))]) new (sup m1 fa (.dnt fa (fdD f ++ [(snD q.2, .tup [kyD q.1, snD s])]))) :=
        ⟨fun p o hp => by rw [sup_ne (fun z => by subst z; rw [F.nf] at hp; cases hp)]; exact F.sub p o hp, F.nf, F.nr, F.nl, F.fr, F.fl, F.rl, by rw [sup_same, fd_snoc]; rfl, by rw [sup_ne (Ne.symm F.fr)]; exact F.hr, by rw [sup_ne (Ne.symm F.fl)]; exact F.hl⟩
      generalize sup m1 fa (.dnt fa (fdD f ++ [(snD q.2, .tup [kyD q.1, snD s])])) = m2 at F1 ⊢
      refine ⟨by simp [tyM, F1.hl], _, F1.hl, by simp; omega, ?_⟩
      refine ih _ _ _ hf' (by simp; omega) ⟨fun p o hp => by rw [sup_ne (fun z => by subst z; rw [F.nl] at hp; cases hp)]; exact F1.sub p o hp, F.nf, F.nr, F.nl, F.fr, F.fl, F.rl, by rw [sup_ne F.fl]; exact F1.hf, by rw [sup_ne F.rl]; exact F1.hr, by rw [sup_same]; simp⟩ hk
def sB (A : Ad) : WS := wSeq (wIfS (wTest (wOp wEq (wOp wIx (wVar 7) (wC (.int 3))) (wTup (wNil)))) (wRet (wFgt (wCall 2 (ph_way_back A) (wCons (wVar 4) (wCons (wVar 7) (wNil)))))) (wNext)) (wFor (iSeq (wCall 4 (ph_steps_on A) (wCons (wVar 0) (wCons (wVar 1) (wCons (wVar 7) (wCons (wVar 2) (wNil))))))) (gTp [8, 9]) gB)
theorem scan_loop {A : Ad} {c : Int} {dead : List Nat} {dn : Int} {ts : List Int} {ps : List Pt} (hM : MOk c dead dn) (hg : Gm.ok ⟨2 * c, dead, ts, ps⟩) {m : Store} {fa rw la : Addr} {row : List Sn} {d3 : Option D} {k : SK} : ∀ (r : List Sn) (f : Fd) (new : List Sn) (m1 : Store) (o7 o8 o9 : Option D), (∀ q ∈ r, SnOk ⟨2 * c, dead, ts, ps⟩ q) → FdOk ⟨2 * c, dead, ts, ps⟩ f → new.length ≤ f.length → FS m fa rw la row f new m1 →
    (∀ s f', scanN ⟨2 * c, dead, ts, ps⟩ r f new = .inl (s, f') → FdOk ⟨2 * c, dead, ts, ps⟩ f' → ∃ ks, Way f' s ks ∧ ks.length < 1000000 ∧ k.rt (.tup (ks.map kyD)) m) →
    (∀ f' new', scanN ⟨2 * c, dead, ts, ps⟩ r f new = .inr (f', new') → ∀ m' o7 o8 o9, FS m fa rw la row f' new' m' → FdOk ⟨2 * c, dead, ts, ps⟩ f' → new'.length ≤ f'.length → k.nx [some (machD c dead dn), some (.tup (ts.map .int)), some (.tup (ps.map ptD)), d3, some (.ref fa), some (.ref rw), some (.ref la), o7, o8, o9] m') →
    wForL (fun m' => m' rw = some (.lst (row.map snD))) (gNm 7) (sB A) (r.map snD) [some (machD c dead dn), some (.tup (ts.map .int)), some (.tup (ps.map ptD)), d3, some (.ref fa), some (.ref rw), some (.ref la), o7, o8, o9] m1 k
  | [], f, new, m1, o7, o8, o9, _, hf, hn, F, _, hk => ⟨F.hr, hk f new rfl m1 o7 o8 o9 F hf hn⟩
  | s :: r, f, new, m1, o7, o8, o9, hq, hf, hn, F, hrt, hk => by
    have L : LIM = 16777216 := rfl
    refine ⟨F.hr, ?_⟩
    have hs := hq s List.mem_cons_self
    have hix : ∀ (m : Store) (K : KD), wIx (snD s) (.int 3) m K = K (.tup (numsD s.left)) m := fun _ _ => rfl
    simp only [sB, hix, s_seq, s_if, s_set, s_ret, s_retN, s_next, s_exp, s_asg, s_for, s_par, s_raise, e_test, e_not, e_and, e_or, e_andV, e_orV, e_notV, e_op, e_un, e_if, e_call, e_callB, e_cons, e_nil, e_tup, e_lst, e_nwF, e_c, e_var, e_sl, e_oSome, e_oNone, e_chain, e_lc, e_seqI, e_mt, e_frz, e_fgt, g_nm, g_tp, putAllS, putAll0, wipeS, wipe0, getS, get0, putS, put0, ok_some]
    refine ⟨by show 0 ≤ LIM; decide, ?_⟩
    have heq : ∀ (m : Store) (K : KD), K (.bl (decide (s.left = []))) m → wEq (.tup (numsD s.left)) (.tup []) m K := fun m K hK => by
      refine ⟨?_, rfl, ?_⟩
      · simp only [rv, dOk]; exact ok_nums _ _
      · have e : eqD (.tup (numsD s.left)) (.tup []) = decide (s.left = []) := by
          have := eqDs_nums s.left []
          simpa [numsD, eqD] using this
        simp only [rv]
        rw [e]; exact hK
    refine heq _ _ ?_
    cases hd : decide (s.left = []) with
    | true =>
      have hd' : s.left = [] := of_decide_eq_true hd
      obtain ⟨ks, w, hl, hR⟩ := hrt s f (by simp only [scanN, hd', if_true]) hf
      simp only [if_true]
      refine ⟨rfl, fa, f, s, ks, rfl, F.hf, w, hl, fun x hx => ?_, m, F.sub, hR⟩
      have h1 := (hf.ok x hx).2.2.length_le
      rw [List.length_range] at h1
      exact Nat.le_trans h1 hg.2.2.2.2.l
    | false =>
      have hd' : ¬ s.left = [] := of_decide_eq_false hd
      have e : scanN ⟨2 * c, dead, ts, ps⟩ (s :: r) f new = scanN ⟨2 * c, dead, ts, ps⟩ r (growN s (stepsN ⟨2 * c, dead, ts, ps⟩ s) f new).1 (growN s (stepsN ⟨2 * c, dead, ts, ps⟩ s) f new).2 := by simp only [scanN, hd', if_false]
      rw [e] at hrt hk
      simp only [Bool.false_eq_true, if_false]
      refine ⟨rfl, c, dead, dn, ts, ps, s, rfl, hM, hg, hs, ?_⟩
      simp only [asI]
      refine grow_loop hg _ f new m1 o8 o9 (steps_ok hs) hf hn F fun m' o8 o9 F' hf' hn' => ?_
      exact scan_loop hM hg r _ _ m' (some (snD s)) o8 o9 (fun z hz => hq z (List.mem_cons_of_mem _ hz)) hf' hn' F' hrt hk
def fwT : WT := wTest (wOp wNe (wVar 5) (wLst false (wNil)))
def fwB (A : Ad) : WS := wSeq (wSet 6 (wLst true (wNil))) (wSeq (wFor (iSeq (wVar 5)) (gNm 7) (sB A)) (wSet 5 (wVar 6)))
theorem ok_sns (row : List Sn) : dOk (.lst (row.map snD)) 60 = true := by
  simp only [dOk]
  exact doks_all fun d hd => by
    obtain ⟨s, _, rfl⟩ := List.mem_map.mp hd
    exact ok_sn s
theorem grow_sub {s : Sn} : ∀ (qs : List (Ky × Sn)) (f : Fd) (new : List Sn), (∀ x ∈ new, x ∈ f.map (·.1)) → ∀ x ∈ (growN s qs f new).2, x ∈ (growN s qs f new).1.map (·.1)
  | [], f, new, h => h
  | q :: qs, f, new, h => by
    simp only [growN]
    split
    · exact grow_sub qs f new h
    · refine grow_sub qs _ _ fun x hx => ?_
      rcases List.mem_append.mp hx with z | z
      · rw [List.map_append, List.mem_append]; exact .inl (h x z)
      · simp only [List.mem_cons, List.not_mem_nil, or_false] at z
        subst z; simp
theorem scan_sub {g : Gm} : ∀ (r : List Sn) (f : Fd) (new : List Sn), (∀ x ∈ new, x ∈ f.map (·.1)) → ∀ f' new', scanN g r f new = .inr (f', new') → ∀ x ∈ new', x ∈ f'.map (·.1)
  | [], f, new, h, f', new', e => by
    simp only [scanN, Sum.inr.injEq, Prod.mk.injEq] at e
    obtain ⟨rfl, rfl⟩ := e
    exact h
  | s :: r, f, new, h, f', new', e => by
    simp only [scanN] at e
    split at e
    · cases e
    · exact scan_sub r _ _ (grow_sub _ f new h) f' new' e
theorem bfs_loop {A : Ad} {c : Int} {dead : List Nat} {dn : Int} {ts : List Int} {ps : List Pt} (hM : MOk c dead dn) (hg : Gm.ok ⟨2 * c, dead, ts, ps⟩) {m : Store} {fa : Addr} {d3 : Option D} {k : SK} {f : Fd} {row : List Sn} {o : Option (List Ky)} (h : Bfs ⟨2 * c, dead, ts, ps⟩ f row o) :
    (∀ ks, o = some ks → k.rt (.tup (ks.map kyD)) m) → (o = none → ∀ r m', Sub m m' → k.nx r m') → FdOk ⟨2 * c, dead, ts, ps⟩ f → (∀ s ∈ row, s ∈ f.map (·.1)) →
    ∃ n, ∀ (rw : Addr) (m1 : Store) (o6 o7 o8 o9 : Option D), Sub m m1 → m fa = none → m rw = none → fa ≠ rw → m1 fa = some (.dnt fa (fdD f)) → m1 rw = some (.lst (row.map snD)) →
    wWhN fwT (fwB A) n [some (machD c dead dn), some (.tup (ts.map .int)), some (.tup (ps.map ptD)), d3, some (.ref fa), some (.ref rw), o6, o7, o8, o9] m1 k := by
  have L : LIM = 16777216 := rfl
  have hne : ∀ (rw : Addr) (m1 : Store) (row : List Sn) (K : KD), m1 rw = some (.lst (row.map snD)) → K (.bl (decide (row ≠ []))) m1 → wNe (.ref rw) (.lst []) m1 K := fun rw m1 row K hr hK => by
    have e : eqD (rv m1 (.ref rw)) (.lst []) = decide (row = []) := by
      simp only [rv, hr]
      cases row <;> simp [eqD, eqDs]
    refine ⟨?_, rfl, ?_⟩
    · simp only [rv, hr]; exact ok_sns row
    · simp only [rv] at e ⊢
      rw [e]
      simpa using hK
  have hok : ∀ {f : Fd} {row : List Sn}, FdOk ⟨2 * c, dead, ts, ps⟩ f → (∀ s ∈ row, s ∈ f.map (·.1)) → ∀ s ∈ row, SnOk ⟨2 * c, dead, ts, ps⟩ s := fun hf hr s hs => by
    obtain ⟨x, hx, rfl⟩ := List.mem_map.mp (hr s hs)
    exact hf.ok x hx
  have body : ∀ (n : Nat) (f : Fd) (row : List Sn), row ≠ [] → FdOk ⟨2 * c, dead, ts, ps⟩ f → (∀ s ∈ row, s ∈ f.map (·.1)) → (∀ s f', scanN ⟨2 * c, dead, ts, ps⟩ row f [] = .inl (s, f') → ∃ ks, Way f' s ks ∧ ks.length < 1000000 ∧ k.rt (.tup (ks.map kyD)) m) →
      (∀ f' new', scanN ⟨2 * c, dead, ts, ps⟩ row f [] = .inr (f', new') → FdOk ⟨2 * c, dead, ts, ps⟩ f' → ∀ (rw : Addr) (m1 : Store) (o6 o7 o8 o9 : Option D), Sub m m1 → m fa = none → m rw = none → fa ≠ rw → m1 fa = some (.dnt fa (fdD f')) → m1 rw = some (.lst (new'.map snD)) → wWhN fwT (fwB A) n [some (machD c dead dn), some (.tup (ts.map .int)), some (.tup (ps.map ptD)), d3, some (.ref fa), some (.ref rw), o6, o7, o8, o9] m1 k) →
      ∀ (rw : Addr) (m1 : Store) (o6 o7 o8 o9 : Option D), Sub m m1 → m fa = none → m rw = none → fa ≠ rw → m1 fa = some (.dnt fa (fdD f)) → m1 rw = some (.lst (row.map snD)) → wWhN fwT (fwB A) (n + 1) [some (machD c dead dn), some (.tup (ts.map .int)), some (.tup (ps.map ptD)), d3, some (.ref fa), some (.ref rw), o6, o7, o8, o9] m1 k := by
    intro n f row hrow hf hr hrt hnx rw m1 o6 o7 o8 o9 hsub nf nr hfr h1 h2
    show fwT _ _ _ _
    simp only [fwT, s_seq, s_if, s_set, s_ret, s_retN, s_next, s_exp, s_asg, s_for, s_par, s_raise, e_test, e_not, e_and, e_or, e_andV, e_orV, e_notV, e_op, e_un, e_if, e_call, e_callB, e_cons, e_nil, e_tup, e_lst, e_nwF, e_c, e_var, e_sl, e_oSome, e_oNone, e_chain, e_lc, e_seqI, e_mt, e_frz, e_fgt, g_nm, g_tp, putAllS, putAll0, wipeS, wipe0, getS, get0, putS, put0, ok_some]
    refine ⟨by decide, ?_⟩
    refine hne rw m1 row _ h2 ?_
    have hd : decide (row ≠ []) = true := decide_eq_true hrow
    rw [hd]
    show fwB A _ _ _
    simp only [fwB, s_seq, s_if, s_set, s_ret, s_retN, s_next, s_exp, s_asg, s_for, s_par, s_raise, e_test, e_not, e_and, e_or, e_andV, e_orV, e_notV, e_op, e_un, e_if, e_call, e_callB, e_cons, e_nil, e_tup, e_lst, e_nwF, e_c, e_var, e_sl, e_oSome, e_oNone, e_chain, e_lc, e_seqI, e_mt, e_frz, e_fgt, g_nm, g_tp, putAllS, putAll0, wipeS, wipe0, getS, get0, putS, put0, ok_some]
    refine ⟨by decide, fun la nl => ?_⟩
    have nl' : m la = none := by
      cases e : m la with
      | none => rfl
      | some o => rw [hsub la o e] at nl; cases nl
    have e1 : fa ≠ la := fun e => by subst e; rw [h1] at nl; cases nl
    have e2 : rw ≠ la := fun e => by subst e; rw [h2] at nl; cases nl
    simp only [asI, sup_ne e2, h2]
    refine scan_loop hM hg row f [] _ o7 o8 o9 (hok hf hr) hf (by simp) ⟨fun p o hp => by rw [sup_ne (fun z => by subst z; rw [nl'] at hp; cases hp)]; exact hsub p o hp, nf, nr, nl', hfr, e1, e2, by rw [sup_ne e1]; exact h1, by rw [sup_ne e2]; exact h2, sup_same⟩ (fun s' f'' e hf' => hrt s' f'' e) (fun f'' new' e m' o7 o8 o9 F hf' hn' => ?_)
    simp only [s_seq, s_if, s_set, s_ret, s_retN, s_next, s_exp, s_asg, s_for, s_par, s_raise, e_test, e_not, e_and, e_or, e_andV, e_orV, e_notV, e_op, e_un, e_if, e_call, e_callB, e_cons, e_nil, e_tup, e_lst, e_nwF, e_c, e_var, e_sl, e_oSome, e_oNone, e_chain, e_lc, e_seqI, e_mt, e_frz, e_fgt, g_nm, g_tp, putAllS, putAll0, wipeS, wipe0, getS, get0, putS, put0, ok_some]
    exact hnx f'' new' e hf' la m' _ _ _ _ F.sub F.nf F.nl F.fl F.hf F.hl
  induction h with
  | none =>
    intro _ hk hf hr
    refine ⟨1, fun rw m1 o6 o7 o8 o9 hsub nf nr hfr h1 h2 => ?_⟩
    show fwT _ _ _ _
    simp only [fwT, s_seq, s_if, s_set, s_ret, s_retN, s_next, s_exp, s_asg, s_for, s_par, s_raise, e_test, e_not, e_and, e_or, e_andV, e_orV, e_notV, e_op, e_un, e_if, e_call, e_callB, e_cons, e_nil, e_tup, e_lst, e_nwF, e_c, e_var, e_sl, e_oSome, e_oNone, e_chain, e_lc, e_seqI, e_mt, e_frz, e_fgt, g_nm, g_tp, putAllS, putAll0, wipeS, wipe0, getS, get0, putS, put0, ok_some]
    refine ⟨by decide, ?_⟩
    refine hne rw m1 [] _ h2 ?_
    exact hk rfl _ _ hsub
  | some hscan w hl =>
    rename_i f f' row s ks
    intro hrt _ hf hr
    have hrow : row ≠ [] := fun e => by subst e; cases hscan
    refine ⟨1, body 0 f row hrow hf hr (fun s' f'' e => ?_) (fun f'' new' e => ?_)⟩
    · rw [hscan] at e
      cases e
      exact ⟨ks, w, hl, hrt ks rfl⟩
    · rw [hscan] at e; cases e
  | more hrow hscan hb ih =>
    rename_i f f' row new o
    intro hrt hk hf hr
    by_cases hf' : FdOk ⟨2 * c, dead, ts, ps⟩ f'
    · obtain ⟨n, hn⟩ := ih hrt hk hf' (scan_sub row f [] (by simp) f' new hscan)
      refine ⟨n + 1, body n f row hrow hf hr (fun s' f'' e => ?_) (fun f'' new' e _ => ?_)⟩
      · rw [hscan] at e; cases e
      · rw [hscan] at e; cases e; exact hn
    · refine ⟨1, body 0 f row hrow hf hr (fun s' f'' e => ?_) (fun f'' new' e z => ?_)⟩
      · rw [hscan] at e; cases e
      · rw [hscan] at e; cases e; exact absurd z hf'
variable {A : Ad} (hA : AdOk A)
include hA
theorem dt_fewest : ∀ ds m R x, ph_fewest A ds m R x → psi_fewest A (startD 10 ds) m (endD R x) := by
  rintro ds m R x ⟨dm, dt, dg, rfl, h⟩
  have L : LIM = 16777216 := rfl
  have e0 : startD 10 [dm, dt, dg] = [some dm, some dt, some dg, none, none, none, none, none, none, none] := rfl
  rw [e0]
  simp only [psi_fewest, s_seq, s_if, s_set, s_ret, s_retN, s_next, s_exp, s_asg, s_for, s_par, s_raise, e_test, e_not, e_and, e_or, e_andV, e_orV, e_notV, e_op, e_un, e_if, e_call, e_callB, e_cons, e_nil, e_tup, e_lst, e_nwF, e_c, e_var, e_sl, e_oSome, e_oNone, e_chain, e_lc, e_seqI, e_mt, e_frz, e_fgt, g_nm, g_tp, putAllS, putAll0, wipeS, wipe0, getS, get0, putS, put0, ok_some]
  refine ⟨rfl, dm, rfl, h.imp fun c dead dn e1 hM hq2 => ?_⟩
  subst e1
  simp only [psi_fewest_t1, s_seq, s_if, s_set, s_ret, s_retN, s_next, s_exp, s_asg, s_for, s_par, s_raise, e_test, e_not, e_and, e_or, e_andV, e_orV, e_notV, e_op, e_un, e_if, e_call, e_callB, e_cons, e_nil, e_tup, e_lst, e_nwF, e_c, e_var, e_sl, e_oSome, e_oNone, e_chain, e_lc, e_seqI, e_mt, e_frz, e_fgt, g_nm, g_tp, putAllS, putAll0, wipeS, wipe0, getS, get0, putS, put0, ok_some]
  refine ⟨rfl, c, dead, dn, dt, rfl, hM, hq2.imp fun ts e2 ht hq3 => ?_⟩
  subst e2
  simp only [psi_fewest_t2, s_seq, s_if, s_set, s_ret, s_retN, s_next, s_exp, s_asg, s_for, s_par, s_raise, e_test, e_not, e_and, e_or, e_andV, e_orV, e_notV, e_op, e_un, e_if, e_call, e_callB, e_cons, e_nil, e_tup, e_lst, e_nwF, e_c, e_var, e_sl, e_oSome, e_oNone, e_chain, e_lc, e_seqI, e_mt, e_frz, e_fgt, g_nm, g_tp, putAllS, putAll0, wipeS, wipe0, getS, get0, putS, put0, ok_some]
  refine ⟨rfl, c, dead, dn, dg, rfl, hM, hq3.imp fun ps e3 hp hq4 => ?_⟩
  subst e3
  obtain ⟨o, hb, hR⟩ := hq4
  have hg : Gm.ok ⟨2 * c, dead, ts, ps⟩ := ⟨by have := hM.lo; show 16 ≤ 2 * c; omega, by have := hM.hi; show 2 * c ≤ 80; omega, hM.de, ht, hp⟩
  have hl5 := hp.l
  simp only [psi_fewest_t3, e_tupRg, s_seq, s_if, s_set, s_ret, s_retN, s_next, s_exp, s_asg, s_for, s_par, s_raise, e_test, e_not, e_and, e_or, e_andV, e_orV, e_notV, e_op, e_un, e_if, e_call, e_callB, e_cons, e_nil, e_tup, e_lst, e_nwF, e_c, e_var, e_sl, e_oSome, e_oNone, e_chain, e_lc, e_seqI, e_mt, e_frz, e_fgt, g_nm, g_tp, putAllS, putAll0, wipeS, wipe0, getS, get0, putS, put0, ok_some]
  simp only [wLen, asQ, asL, ok_some, List.length_map]
  refine ⟨by omega, by omega, by show 4 ≤ LIM; decide, ?_⟩
  have ef : D.tup [.int 0, .int 0, .bl false, .tup (rgD ((ps.length : Nat) : Int).toNat)] = snD (firstN ⟨2 * c, dead, ts, ps⟩) := by
    rw [Int.toNat_natCast]; rfl
  rw [ef]
  simp only [psi_fewest_t4, e_ndisp, s_seq, s_if, s_set, s_ret, s_retN, s_next, s_exp, s_asg, s_for, s_par, s_raise, e_test, e_not, e_and, e_or, e_andV, e_orV, e_notV, e_op, e_un, e_if, e_call, e_callB, e_cons, e_nil, e_tup, e_lst, e_nwF, e_c, e_var, e_sl, e_oSome, e_oNone, e_chain, e_lc, e_seqI, e_mt, e_frz, e_fgt, g_nm, g_tp, putAllS, putAll0, wipeS, wipe0, getS, get0, putS, put0, ok_some]
  refine ⟨numOk_sn _, snD_tup _, fun fa nf => ?_⟩
  simp only [psi_fewest_t5, s_seq, s_if, s_set, s_ret, s_retN, s_next, s_exp, s_asg, s_for, s_par, s_raise, e_test, e_not, e_and, e_or, e_andV, e_orV, e_notV, e_op, e_un, e_if, e_call, e_callB, e_cons, e_nil, e_tup, e_lst, e_nwF, e_c, e_var, e_sl, e_oSome, e_oNone, e_chain, e_lc, e_seqI, e_mt, e_frz, e_fgt, g_nm, g_tp, putAllS, putAll0, wipeS, wipe0, getS, get0, putS, put0, ok_some]
  refine ⟨by show 1 ≤ LIM; decide, fun rw nr => ?_⟩
  have hfr : fa ≠ rw := fun e => by subst e; rw [sup_same] at nr; cases nr
  have nr' : m rw = none := by rw [sup_ne (Ne.symm hfr)] at nr; exact nr
  have hs0 : SnOk ⟨2 * c, dead, ts, ps⟩ (firstN ⟨2 * c, dead, ts, ps⟩) := ⟨by show (0 : Int) ≤ 0; omega, by have := hM.lo; show (0 : Int) ≤ 2 * c; omega, List.Sublist.refl _⟩
  have hf0 : FdOk ⟨2 * c, dead, ts, ps⟩ [(firstN ⟨2 * c, dead, ts, ps⟩, none)] := ⟨by simp, fun x hx => by simp at hx; subst hx; exact hs0⟩
  simp only [psi_fewest_t6, s_seq, s_if, s_set, s_ret, s_retN, s_next, s_exp, s_asg, s_for, s_par, s_raise, e_test, e_not, e_and, e_or, e_andV, e_orV, e_notV, e_op, e_un, e_if, e_call, e_callB, e_cons, e_nil, e_tup, e_lst, e_nwF, e_c, e_var, e_sl, e_oSome, e_oNone, e_chain, e_lc, e_seqI, e_mt, e_frz, e_fgt, g_nm, g_tp, putAllS, putAll0, wipeS, wipe0, getS, get0, putS, put0, ok_some]
  have hn := bfs_loop (A := A) hM hg (m := m) (fa := fa) (d3 := some (snD (firstN ⟨2 * c, dead, ts, ps⟩))) (k := { nx := fun r' m' => psi_fewest_t7 A r' m' (endD R x), rt := (endD R x).rt, ex := (endD R x).ex, bk := (endD R x).bk, ct := (endD R x).ct }) hb (fun ks e => ?_) (fun e r' m' hs => ?_) hf0 (by simp)
  · obtain ⟨n, hn⟩ := hn
    refine ⟨n, hn rw _ _ _ _ _ (fun q oo hq => ?_) nf nr' hfr ?_ ?_⟩
    · rw [sup_ne (fun z => by subst z; rw [nr'] at hq; cases hq), sup_ne (fun z => by subst z; rw [nf] at hq; cases hq)]; exact hq
    · rw [sup_ne hfr, sup_same]; rfl
    · rw [sup_same]; rfl
  · subst e; exact hR
  · subst e
    simp only [psi_fewest_t7, s_seq, s_if, s_set, s_ret, s_retN, s_next, s_exp, s_asg, s_for, s_par, s_raise, e_test, e_not, e_and, e_or, e_andV, e_orV, e_notV, e_op, e_un, e_if, e_call, e_callB, e_cons, e_nil, e_tup, e_lst, e_nwF, e_c, e_var, e_sl, e_oSome, e_oNone, e_chain, e_lc, e_seqI, e_mt, e_frz, e_fgt, g_nm, g_tp, putAllS, putAll0, wipeS, wipe0, getS, get0, putS, put0, ok_some]
    exact ⟨m, hs, hR⟩
end DL
end
section
set_option maxHeartbeats 0
namespace DL
open PySem
def psi__law_cell_at (A : Ad) : WS := wSeq (wIfS (wTest (wOp wLt (wVar 1) (wCallB wLen (wCons (wVar 0) (wNil))))) (wRet (wOp wIx (wVar 0) (wVar 1))) (wNext)) (wSeq (wIfS (wTest (wOp wEqS (wVar 0) (wLst false (wNil)))) (wRet (wC (.int 0))) (wNext)) (wRet (wOp (wAdd false) (wOp (wMul false) (wOp wIx (wVar 0) (wOp wMod (wVar 1) (wCallB wLen (wCons (wVar 0) (wNil))))) (wC (.int 31))) (wVar 1))))
def psi__law_mixed (A : Ad) : WS := wSeq (wSet 3 (wOp wMod (wOp (wAdd false) (wOp (wAdd false) (wOp (wMul false) (wCall 2 (ph__law_cell_at A) (wCons (wVar 0) (wCons (wVar 1) (wNil)))) (wC (.int 1103515245))) (wOp (wMul false) (wC (.int 7919)) (wVar 1))) (wC (.int 12345))) (wC (.int 2147483647)))) (wRet (wOp wMod (wOp wMod (wOp wMod (wOp wPow (wVar 3) (wC (.int 5))) (wC (.int 2147483647))) (wC (.int 999983))) (wVar 2)))
def psi__law_draw (A : Ad) : WS := wSeq (wExp (wMt "list" wAppend (wVar 1) (wCons (wC (.int 0)) (wNil)))) (wRet (wCall 3 (ph__law_mixed A) (wCons (wVar 0) (wCons (wCallB wLen (wCons (wVar 1) (wNil))) (wCons (wVar 2) (wNil))))))
def psi__law_pick (A : Ad) : WS := wRet (wOp wIx (wVar 2) (wCall 3 (ph__law_draw A) (wCons (wVar 0) (wCons (wVar 1) (wCons (wCallB wLen (wCons (wVar 2) (wNil))) (wNil))))))
def psi__law_machine (A : Ad) : WS := wSeq (wSet 2 (wCall 3 (ph__law_pick A) (wCons (wVar 0) (wCons (wVar 1) (wCons (wLst false (wCons (wC (.int 8)) (wCons (wC (.int 9)) (wCons (wC (.int 10)) (wCons (wC (.int 12)) (wCons (wC (.int 20)) (wCons (wC (.int 40)) (wNil)))))))) (wNil)))))) (wSeq (wSet 3 (wCallB wTuple (wCons (wLc false [4] (iSeq (wTup (wCons (wC (.str (PySem.Str.ofString "'"))) (wCons (wC (.str (PySem.Str.ofString "^"))) (wCons (wC (.str (PySem.Str.ofString "~"))) (wNil)))))) (gNm 4) (wTest (wOp wEq (wCall 3 (ph__law_draw A) (wCons (wVar 0) (wCons (wVar 1) (wCons (wC (.int 2)) (wNil))))) (wC (.int 0)))) (wVar 4)) (wNil)))) (wRet (wTup (wCons (wVar 2) (wCons (wVar 3) (wCons (wOp (wAdd false) (wC (.int 2)) (wCall 3 (ph__law_draw A) (wCons (wVar 0) (wCons (wVar 1) (wCons (wC (.int 3)) (wNil)))))) (wNil)))))))
end DL
end
section
set_option maxHeartbeats 0
namespace DL
open PySem
variable {A : Ad} (hA : AdOk A)
include hA
theorem dt__law_cell_at : ∀ ds m R x, ph__law_cell_at A ds m R x → psi__law_cell_at A (startD 2 ds) m (endD R x) := by
  rintro ds m R x ⟨ns, k, rfl, h0, h⟩
  simp [psi__law_cell_at, wLen, asQ, wLt]
  by_cases h1 : k < (ns.length : Int)
  · simp [h1, wIx, asQ]
    obtain ⟨v, hv, e⟩ := atL_some (xs := ns.map D.int) h0 (by simpa using h1)
    rw [e]
    obtain ⟨i, _, rfl⟩ := List.mem_map.mp hv
    exact h i
  · simp [h1, wEqS]
    cases ns with
    | nil => simp; exact h 0
    | cons n ns =>
      have p1 : (0 : Int) < (ns.length : Int) + 1 := by omega
      simp [wMod, wIx, asQ, p1]
      obtain ⟨v, hv, e⟩ := atL_some (xs := D.int n :: ns.map D.int) (i := k % ((ns.length : Int) + 1)) (Int.emod_nonneg _ (by omega)) (by simpa using Int.emod_lt_of_pos _ (by omega))
      rw [e]
      have hv' : v ∈ (n :: ns).map D.int := hv
      obtain ⟨i, _, rfl⟩ := List.mem_map.mp hv'
      simp [wMul, wAdd]
      exact h _
theorem dt__law_mixed : ∀ ds m R x, ph__law_mixed A ds m R x → psi__law_mixed A (startD 4 ds) m (endD R x) := by
  rintro ds m R x ⟨ns, k, n, rfl, h0, h1, h⟩
  simp [psi__law_mixed]
  refine ⟨_, _, rfl, h0, fun v => ?_⟩
  simp [wMul, wAdd, wMod]
  have e0 := Int.emod_nonneg (v * 1103515245 + 7919 * k + 12345) (b := 2147483647) (by decide)
  have e1 := Int.emod_lt_of_pos (v * 1103515245 + 7919 * k + 12345) (b := 2147483647) (by decide)
  generalize (v * 1103515245 + 7919 * k + 12345) % 2147483647 = d at e0 e1
  simp [wPow, wMod]
  refine ⟨by omega, h1, h _ (Int.emod_nonneg _ (by omega)) (Int.emod_lt_of_pos _ h1)⟩
theorem dt__law_draw : ∀ ds m R x, ph__law_draw A ds m R x → psi__law_draw A (startD 3 ds) m (endD R x) := by
  rintro ds m R x ⟨ns, t, n, us, rfl, h0, h1, h2, h⟩
  simp [psi__law_draw, tyM, h1, wAppend]
  refine ⟨h2, ?_⟩
  simp [wLen, asQ, asL, sup_same]
  refine ⟨_, _, _, rfl, by omega, h0, fun v v0 v1 => h v _ v0 v1 (by simp)⟩
theorem dt__law_pick : ∀ ds m R x, ph__law_pick A ds m R x → psi__law_pick A (startD 3 ds) m (endD R x) := by
  rintro ds m R x ⟨ns, t, d, us, rfl, h1, h2, h⟩
  have seq : ∀ xs : List D, (asQ m d = some xs ∧ ∀ us' : List D, asQ (sup m t (.lst us')) d = some xs) → (∀ s, d ≠ .str s) → xs ≠ [] → (∀ v us', v ∈ xs → us'.length = us.length + 1 → R v (sup m t (.lst us'))) → psi__law_pick A (startD 3 [.scr ns, .ref t, d]) m (endD R x) := by
    intro xs hq hd hne hR
    have l0 : 0 < xs.length := by cases xs with | nil => exact absurd rfl hne | cons a b => simp
    simp [psi__law_pick]
    have w1 : wLen [d] m = fun R => R (.int (xs.length : Nat)) m := by
      funext R
      cases d <;> simp [wLen, hq.1] 
      exact absurd rfl (hd _)
    rw [w1]
    refine ⟨_, _, _, _, rfl, by omega, h1, h2, fun v us' v0 v1 hu => ?_⟩
    obtain ⟨z, hz, e⟩ := atL_some (xs := xs) v0 (by omega)
    have w2 : wIx d (.int v) (sup m t (.lst us')) R = R z (sup m t (.lst us')) := by
      cases d <;> simp [wIx, hq.2 us', e]
      exact absurd rfl (hd _)
    show wIx d (.int v) (sup m t (.lst us')) R
    rw [w2]
    exact hR z us' hz hu
  cases d with
  | str s =>
    obtain ⟨h3, h4, h5⟩ := h
    simp [psi__law_pick, wLen, h3]
    refine ⟨_, _, _, _, rfl, by omega, h1, h2, fun v us' v0 v1 hu => ?_⟩
    have hl : s.cps.toList.length = s.length := by simp [PySem.Str.length]
    obtain ⟨z, hz, e⟩ := atL_some (xs := s.cps.toList) v0 (by omega)
    simp only [wIx]
    refine ⟨h3, ?_⟩
    rw [e]
    exact h5 z us' hz hu
  | tup xs => exact seq xs ⟨rfl, fun _ => rfl⟩ (by simp) h.1 h.2
  | lst xs => exact seq xs ⟨rfl, fun _ => rfl⟩ (by simp) h.1 h.2
  | ref a =>
    obtain ⟨hne, xs, ha, h3, h4⟩ := h
    exact seq xs ⟨by simp [asQ, asL, ha], fun us' => by simp [asQ, asL, sup_ne hne, ha]⟩ (by simp) h3 h4
  | _ => exact h.elim
theorem dt__law_machine : ∀ ds m R x, ph__law_machine A ds m R x → psi__law_machine A (startD 5 ds) m (endD R x) := by
  rintro ds m R x ⟨ns, t, us, rfl, h1, h2, h⟩
  have L : LIM = 16777216 := rfl
  simp [psi__law_machine]
  refine ⟨by decide, _, _, _, _, rfl, h1, by omega, ?_⟩
  refine ⟨by simp, fun v us1 hv hu1 => ?_⟩
  obtain ⟨c, rfl, hc⟩ : ∃ c : Int, v = .int c ∧ 8 ≤ c ∧ c ≤ 40 := by
    simp at hv
    rcases hv with e | e | e | e | e | e <;> subst e <;> exact ⟨_, rfl, by decide, by decide⟩
  simp [asI]
  refine ⟨by decide, ?_⟩
  have step : ∀ (G : Store → Prop) (K : List D → Store → Prop) (k : Nat) (rest acc : List D) (us' : List D), (∀ m, G m) → us'.length < us.length + 4 → acc.length < 3 → (∀ us'' : List D, us''.length = us'.length + 1 → wLcL G [4] (gNm 4) (wTest (wOp wEq (wCall 3 (ph__law_draw A) (wCons (wVar 0) (wCons (wVar 1) (wCons (wC (.int 2)) (wNil))))) (wC (.int 0)))) (wVar 4) [some (.scr ns), some (.ref t), some (.int c), none, none] rest (acc ++ [ch k]) (sup m t (.lst us'')) K) →
      (∀ us'' : List D, us''.length = us'.length + 1 → wLcL G [4] (gNm 4) (wTest (wOp wEq (wCall 3 (ph__law_draw A) (wCons (wVar 0) (wCons (wVar 1) (wCons (wC (.int 2)) (wNil))))) (wC (.int 0)))) (wVar 4) [some (.scr ns), some (.ref t), some (.int c), none, none] rest acc (sup m t (.lst us'')) K) →
      wLcL G [4] (gNm 4) (wTest (wOp wEq (wCall 3 (ph__law_draw A) (wCons (wVar 0) (wCons (wVar 1) (wCons (wC (.int 2)) (wNil))))) (wC (.int 0)))) (wVar 4) [some (.scr ns), some (.ref t), some (.int c), none, none] (ch k :: rest) acc (sup m t (.lst us')) K := by
    intro G K k rest acc us' hG hu ha s1 s2
    refine ⟨hG _, ?_⟩
    simp
    refine ⟨_, _, _, _, rfl, by decide, sup_same, by omega, fun v us'' v0 v1 hu'' => ?_⟩
    rw [sup_sup]
    simp [wEq]
    by_cases e : v = 0
    · simp [e]
      exact ⟨by omega, s1 us'' hu''⟩
    · simp [e]
      exact s2 us'' hu''
  have fin : ∀ (dead : List Nat) (us' : List D), dead ∈ deads → us'.length = us.length + 4 → wTuple [.lst (dead.map ch)] (sup m t (.lst us')) (fun u m1 => ph__law_draw A [.scr ns, .ref t, .int 3] m1 (fun v m2 => wAdd false (.int 2) v m2 fun u_1 m2 => 3 ≤ LIM ∧ R (.tup [.int c, u, u_1]) m2) x) := by
    intro dead us' hd hu'
    simp [wTuple, asQ, asL]
    refine ⟨_, _, _, _, rfl, by decide, sup_same, by omega, fun v us'' v0 v1 hu'' => ?_⟩
    rw [sup_sup]
    simp [wAdd]
    refine ⟨by decide, ?_⟩
    exact h c dead (2 + v) us'' ⟨hc.1, hc.2, hd, by omega, by omega⟩ (by omega)
  have hT : ∀ m : Store, True := fun _ => trivial
  refine step _ _ 39 _ _ _ hT (by omega) (by simp) (fun us2 e2 => ?_) (fun us2 e2 => ?_) <;>
  refine step _ _ 94 _ _ _ hT (by omega) (by simp) (fun us3 e3 => ?_) (fun us3 e3 => ?_) <;>
  refine step _ _ 126 _ _ _ hT (by omega) (by simp) (fun us4 e4 => ⟨trivial, ?_⟩) (fun us4 e4 => ⟨trivial, ?_⟩)
  · exact fin [39, 94, 126] us4 (by simp [deads]) (by omega)
  · exact fin [39, 94] us4 (by simp [deads]) (by omega)
  · exact fin [39, 126] us4 (by simp [deads]) (by omega)
  · exact fin [39] us4 (by simp [deads]) (by omega)
  · exact fin [94, 126] us4 (by simp [deads]) (by omega)
  · exact fin [94] us4 (by simp [deads]) (by omega)
  · exact fin [126] us4 (by simp [deads]) (by omega)
  · exact fin [] us4 (by simp [deads]) (by omega)
end DL
end
section
set_option maxHeartbeats 0
namespace DL
open PySem
def gSigns : List Nat := [97, 65, 98, 66, 48, 49, 46, 39, 94]
structure GDr (c : Int) (ps : List Pt) : Prop where
  b : ∀ p ∈ ps, 0 ≤ p.place ∧ p.place ≤ 2 * c - 2 ∧ p.sign ∈ gSigns
  r : rise ptLt ps = true
def ph__law_goal (A : Ad) : FW := fun ds m R _ => ∃ (ns : List Int) (t : Addr) (c : Int) (dead : List Nat) (dn : Int) (n : Int) (us : List D), ds = [.scr ns, .ref t, machD c dead dn, .int n] ∧ 8 ≤ c ∧ 0 ≤ n ∧ n ≤ 5 ∧ m t = some (.lst us) ∧ us.length ≤ 1000000 ∧ ∀ (ps : List Pt) us', GDr c ps → (ps.length : Int) ≤ n → us'.length ≤ us.length + 30 → R (.tup (ps.map ptD)) (sup m t (.lst us'))
def ph__law_tabs (A : Ad) : FW := fun ds m R _ => ∃ (ns : List Int) (t : Addr) (c : Int) (dead : List Nat) (dn : Int) (n : Int) (us : List D), ds = [.scr ns, .ref t, machD c dead dn, .int n] ∧ 8 ≤ c ∧ 0 ≤ n ∧ n ≤ 6 ∧ m t = some (.lst us) ∧ us.length ≤ 1000000 ∧ ∀ (ts : List Int) us', TbOk (2 * c) ts → (ts.length : Int) ≤ n → us'.length ≤ us.length + 30 → R (.tup (ts.map .int)) (sup m t (.lst us'))
end DL
end
section
set_option maxHeartbeats 0
namespace DL
open PySem
def psi__law_goal (A : Ad) : WS := wSeq (wSet 4 (wLst true (wNil))) (wSeq (wFor (iRange1 (wCall 3 (ph__law_draw A) (wCons (wVar 0) (wCons (wVar 1) (wCons (wOp (wAdd false) (wVar 3) (wC (.int 1))) (wNil)))))) (gNm 5) (wSeq (wSet 6 (wCall 3 (ph__law_draw A) (wCons (wVar 0) (wCons (wVar 1) (wCons (wCall 3 (ph__law_pick A) (wCons (wVar 0) (wCons (wVar 1) (wCons (wLst false (wCons (wC (.int 4)) (wCons (wC (.int 9)) (wCons (wOp wSub (wOp (wMul false) (wC (.int 2)) (wOp wIx (wVar 2) (wC (.int 0)))) (wC (.int 1))) (wNil))))) (wNil))))) (wNil)))))) (wExp (wMt "list" wAppend (wVar 4) (wCons (wTup (wCons (wVar 6) (wCons (wCall 3 (ph__law_pick A) (wCons (wVar 0) (wCons (wVar 1) (wCons (wC (.str (PySem.Str.ofString "aAbB01.'^"))) (wNil))))) (wCons (wCall 3 (ph__law_pick A) (wCons (wVar 0) (wCons (wVar 1) (wCons (wLst false (wCons (wC (.str (PySem.Str.ofString "black"))) (wCons (wC (.str (PySem.Str.ofString "black"))) (wCons (wC (.str (PySem.Str.ofString "red"))) (wNil))))) (wNil))))) (wNil))))) (wNil)))))) (wRet (wFgt (wCallB wTuple (wCons (wSrtSetD false (wVar 4)) (wNil))))))
end DL
end
section
set_option maxHeartbeats 0
namespace DL
open PySem
def psi__law_tabs (A : Ad) : WS := wSeq (wSet 4 (wCall 3 (ph__law_draw A) (wCons (wVar 0) (wCons (wVar 1) (wCons (wOp (wAdd false) (wVar 3) (wC (.int 1))) (wNil)))))) (wRet (wFgt (wCallB wTuple (wCons (wSrtSetI false (wLc false [5] (iRange1 (wVar 4)) (gNm 5) (wYes) (wCall 3 (ph__law_draw A) (wCons (wVar 0) (wCons (wVar 1) (wCons (wOp (wAdd false) (wOp (wMul false) (wC (.int 2)) (wOp wIx (wVar 2) (wC (.int 0)))) (wC (.int 1))) (wNil))))))) (wNil)))))
end DL
end
section
set_option maxHeartbeats 0
namespace DL
open PySem
theorem nk_pt (p : Pt) (h : p.sign < 128) : nkOk (ptD p) 8 = true := by
  have := ok_ch p.sign 7 h
  have e : nkOk (if p.red = true then wordD "red" else wordD "black") 7 = true := nk_col p.red 7
  simp only [ptD, nkOk, nkOks, e]
  simpa [dOk] using this
theorem ptD_inj {a b : Pt} (h : ptD a = ptD b) : a = b := by rw [← ptO_ptD a, h, ptO_ptD]
theorem ptLt_total {a b : Pt} (h : ptLt b a = false) (hne : a ≠ b) : ptLt a b = true := by
  obtain ⟨p, s, r⟩ := a
  obtain ⟨p', s', r'⟩ := b
  simp only [ptLt, Bool.or_eq_true, Bool.or_eq_false_iff, Bool.and_eq_true, Bool.and_eq_false_iff, decide_eq_true_eq, decide_eq_false_iff_not] at h ⊢
  have hne' : p = p' → s = s' → ¬ r = r' := fun a b c => hne (by rw [a, b, c])
  by_cases h1 : p < p'
  · exact .inl h1
  · have e1 : p = p' := by omega
    refine .inr ⟨e1, ?_⟩
    by_cases h2 : s < s'
    · exact .inl h2
    · have h3 := h.2
      rcases h3 with z | z
      · exact absurd e1.symm z
      · have e2 : s = s' := by omega
        refine .inr ⟨e2, ?_⟩
        rcases z.2 with y | y
        · exact absurd e2.symm y
        · have := hne' e1 e2
          cases r <;> cases r' <;> simp_all
theorem rise_of {α : Type} {lt : α → α → Bool} : ∀ {l : List α}, l.Pairwise (fun a b => lt a b = true) → rise lt l = true
  | [], _ => rfl
  | [_], _ => rfl
  | a :: b :: r, h => by
    cases h with
    | cons h1 h2 => simp only [rise, h1 b List.mem_cons_self, rise_of h2, Bool.and_self]
theorem srtset_pt {ps : List Pt} {b : Bool} {m : Store} {R : KD} {a : WE} {r : Env} {x : XD} (hs : ∀ p ∈ ps, p.sign < 128) (hl : ps.length ≤ 76) (ha : ∀ K : KD, (∀ u, asL m u = some (ps.map ptD) → K u m) → a r m K x)
    (h : ∀ ys : List Pt, ys.Nodup → (∀ p, p ∈ ys ↔ p ∈ ps) → rise ptLt ys = true → wNw b (ys.map ptD) m R) : wSrtSetD b a r m R x := by
  refine ha _ fun u hu => ⟨ps.map ptD, hu, ⟨fun d hd => ?_, fun d hd e he => ?_, fun d hd => ?_, fun es nd he => ?_⟩, fun es h1 h2 h3 => ?_⟩
  · obtain ⟨s, h', rfl⟩ := List.mem_map.mp hd; exact nk_pt s (hs s h')
  · obtain ⟨s, _, rfl⟩ := List.mem_map.mp hd; obtain ⟨s', _, rfl⟩ := List.mem_map.mp he; exact pt_alike s s'
  · obtain ⟨s, _, rfl⟩ := List.mem_map.mp hd; exact ⟨_, _, rfl⟩
  · obtain ⟨ys, rfl, hy⟩ := pick_map (f := ptD) (xs := ps) (L := es) he
    rw [List.length_map]
    have := nodup_le ((List.pairwise_map.mp nd).imp fun h e => h (by rw [e])) (ds := ps) fun y hm => hy y hm
    omega
  · obtain ⟨ys, rfl, hy⟩ := pick_map (f := ptD) (xs := ps) (L := es) fun d hd => (h2 d).mp hd
    have nd : ys.Nodup := (List.pairwise_map.mp h1).imp fun h e => h (by rw [e])
    refine h ys nd (fun a => ⟨hy a, fun ha => ?_⟩) (rise_of ?_)
    · obtain ⟨y, hy1, e⟩ := List.mem_map.mp ((h2 (ptD a)).mpr (List.mem_map.mpr ⟨a, ha, rfl⟩))
      rw [← ptD_inj e]; exact hy1
    · have h4 := List.pairwise_map.mp h3
      refine (h4.and nd).imp_of_mem fun {p q} hp hq hh => ?_
      rw [pt_lt (hs q (hy q hq)) (hs p (hy p hp))] at hh
      exact ptLt_total hh.1 hh.2
theorem sup_swap' {m : Store} {a t : Addr} (h : a ≠ t) {x y z : MO} : sup (sup (sup m t x) a y) t z = sup (sup m t z) a y := by
  funext b
  unfold sup
  by_cases h1 : b = t
  · subst h1; simp [Ne.symm h]
  · simp [h1]
variable {A : Ad} (hA : AdOk A)
include hA
theorem dt__law_tabs : ∀ ds m R x, ph__law_tabs A ds m R x → psi__law_tabs A (startD 6 ds) m (endD R x) := by
  rintro ds m R x ⟨ns, t, c, dead, dn, n, us, rfl, hc, h0, h1, hm, hu, hR⟩
  have L : LIM = 16777216 := rfl
  have e0 : startD 6 [D.scr ns, .ref t, machD c dead dn, .int n] = [some (.scr ns), some (.ref t), some (machD c dead dn), some (.int n), none, none] := rfl
  rw [e0]
  simp only [psi__law_tabs, s_seq, s_if, s_set, s_ret, s_retN, s_next, s_exp, s_asg, s_for, s_par, s_raise, e_test, e_not, e_and, e_or, e_andV, e_orV, e_notV, e_op, e_un, e_if, e_call, e_callB, e_cons, e_nil, e_tup, e_lst, e_nwF, e_c, e_var, e_sl, e_oSome, e_oNone, e_chain, e_lc, e_seqI, e_mt, e_frz, e_fgt, g_nm, g_tp, putAllS, putAll0, wipeS, wipe0, getS, get0, putS, put0, ok_some]
  refine ⟨rfl, ns, t, n + 1, us, rfl, by omega, hm, by omega, fun v us1 v0 v1 hu1 => ?_⟩
  simp only [e_srtSetI, iRange1, s_seq, s_if, s_set, s_ret, s_retN, s_next, s_exp, s_asg, s_for, s_par, s_raise, e_test, e_not, e_and, e_or, e_andV, e_orV, e_notV, e_op, e_un, e_if, e_call, e_callB, e_cons, e_nil, e_tup, e_lst, e_nwF, e_c, e_var, e_sl, e_oSome, e_oNone, e_chain, e_lc, e_seqI, e_mt, e_frz, e_fgt, g_nm, g_tp, putAllS, putAll0, wipeS, wipe0, getS, get0, putS, put0, ok_some]
  refine ⟨by omega, by omega, ?_⟩
  refine lc_inv (fun ds acc m' => ∃ (js : List Int) (us' : List D), acc = js.map .int ∧ (∀ j ∈ js, 0 ≤ j ∧ j ≤ 2 * c) ∧ js.length + ds.length = v.toNat ∧ us'.length + ds.length ≤ us.length + 1 + v.toNat ∧ m' = sup m t (.lst us')) _ _ _ _ ⟨[], us1, rfl, by simp, by simp [rangeD], by simp [rangeD]; omega, rfl⟩ ?_ ?_
  · rintro d ds acc m1 ⟨js, us', rfl, hj, hjl, hul, rfl⟩ P hP
    simp only [List.length_cons] at hjl hul
    refine ⟨trivial, ?_⟩
    simp only [e_yes, s_seq, s_if, s_set, s_ret, s_retN, s_next, s_exp, s_asg, s_for, s_par, s_raise, e_test, e_not, e_and, e_or, e_andV, e_orV, e_notV, e_op, e_un, e_if, e_call, e_callB, e_cons, e_nil, e_tup, e_lst, e_nwF, e_c, e_var, e_sl, e_oSome, e_oNone, e_chain, e_lc, e_seqI, e_mt, e_frz, e_fgt, g_nm, g_tp, putAllS, putAll0, wipeS, wipe0, getS, get0, putS, put0, ok_some]
    simp only [if_true, mach0]
    refine ⟨.inl ⟨by decide, by decide⟩, rfl, ns, t, 2 * c + 1, us', rfl, by omega, sup_same, by omega, fun w us2 w0 w1 hu2 => ⟨by simp; omega, hP _ _ ⟨js ++ [w], us2, by simp, fun j hj' => ?_, by simp; omega, by omega, by rw [sup_sup]⟩⟩⟩
    rcases List.mem_append.mp hj' with z | z
    · exact hj j z
    · simp only [List.mem_cons, List.not_mem_nil, or_false] at z
      subst z; omega
  · rintro acc m1 ⟨js, us', rfl, hj, hjl, hul, rfl⟩
    simp only [List.length_nil] at hjl hul
    refine ⟨trivial, js, rfl, by omega, fun ts hs hmem => ?_⟩
    simp only [e_nwF, wTuple, asQ, asL, ok_some]
    have hlen : ts.length ≤ js.length := nodup_le (hs.imp fun h e => by omega) fun k hk => (hmem k).mp hk
    refine ⟨_, fun _ _ z => z, hR ts us' ⟨by omega, fun k hk => hj k ((hmem k).mp hk), rise_of (hs.imp fun h => decide_eq_true h)⟩ (by omega) (by omega)⟩
theorem dt__law_goal : ∀ ds m R x, ph__law_goal A ds m R x → psi__law_goal A (startD 7 ds) m (endD R x) := by
  rintro ds m R x ⟨ns, t, c, dead, dn, n, us, rfl, hc, h0, h1, hm, hu, hR⟩
  have L : LIM = 16777216 := rfl
  have e0 : startD 7 [D.scr ns, .ref t, machD c dead dn, .int n] = [some (.scr ns), some (.ref t), some (machD c dead dn), some (.int n), none, none, none] := rfl
  rw [e0]
  have hal : PySem.Str.ofString "aAbB01.'^" = (⟨#[97, 65, 98, 66, 48, 49, 46, 39, 94]⟩ : Str) := by decide +kernel
  simp only [psi__law_goal, hal, s_seq, s_if, s_set, s_ret, s_retN, s_next, s_exp, s_asg, s_for, s_par, s_raise, e_test, e_not, e_and, e_or, e_andV, e_orV, e_notV, e_op, e_un, e_if, e_call, e_callB, e_cons, e_nil, e_tup, e_lst, e_nwF, e_c, e_var, e_sl, e_oSome, e_oNone, e_chain, e_lc, e_seqI, e_mt, e_frz, e_fgt, g_nm, g_tp, putAllS, putAll0, wipeS, wipe0, getS, get0, putS, put0, ok_some]
  refine ⟨by show 0 ≤ LIM; decide, fun a na => ?_⟩
  have hat : a ≠ t := fun e => by rw [e, hm] at na; cases na
  simp only [iRange1, s_seq, s_if, s_set, s_ret, s_retN, s_next, s_exp, s_asg, s_for, s_par, s_raise, e_test, e_not, e_and, e_or, e_andV, e_orV, e_notV, e_op, e_un, e_if, e_call, e_callB, e_cons, e_nil, e_tup, e_lst, e_nwF, e_c, e_var, e_sl, e_oSome, e_oNone, e_chain, e_lc, e_seqI, e_mt, e_frz, e_fgt, g_nm, g_tp, putAllS, putAll0, wipeS, wipe0, getS, get0, putS, put0, ok_some]
  refine ⟨rfl, ns, t, n + 1, us, rfl, by omega, by rw [sup_ne (Ne.symm hat)]; exact hm, by omega, fun v us1 v0 v1 hu1 => ?_⟩
  refine ⟨by omega, by omega, ?_⟩
  have hin : sup (sup m a (.lst [])) t (.lst us1) = sup (sup m t (.lst us1)) a (.lst (([] : List Pt).map ptD)) := by
    funext b
    unfold sup
    by_cases h1 : b = t
    · subst h1; simp [Ne.symm hat]
    · simp [h1]
  refine for_inv (fun ds e m' => ∃ (js : List Pt) (us' : List D) (v5 v6 : Option D), (∀ p ∈ js, 0 ≤ p.place ∧ p.place ≤ 2 * c - 2 ∧ p.sign ∈ gSigns) ∧ js.length + ds.length ≤ v.toNat ∧ us'.length + 4 * ds.length ≤ us.length + 1 + 4 * v.toNat ∧ m' = sup (sup m t (.lst us')) a (.lst (js.map ptD)) ∧ e = [some (.scr ns), some (.ref t), some (machD c dead dn), some (.int n), some (.ref a), v5, v6]) _ _ _ ⟨[], us1, none, none, by simp, by simp [rangeD], by simp [rangeD]; omega, hin, rfl⟩ ?_ ?_
  · rintro q ds e m' ⟨js, us', v5, v6, hj, hjl, hul, rfl, rfl⟩ P hP
    refine ⟨trivial, ?_⟩
    simp only [List.length_cons] at hjl hul
    have ht : ∀ (w : List D), sup (sup m t (.lst w)) a (.lst (js.map ptD)) t = some (.lst w) := fun w => by rw [sup_ne (Ne.symm hat)]; exact sup_same
    have hsw : ∀ (w w' : List D), sup (sup (sup m t (.lst w)) a (.lst (js.map ptD))) t (.lst w') = sup (sup m t (.lst w')) a (.lst (js.map ptD)) := fun w w' => sup_swap' hat
    simp only [mach0, s_seq, s_if, s_set, s_ret, s_retN, s_next, s_exp, s_asg, s_for, s_par, s_raise, e_test, e_not, e_and, e_or, e_andV, e_orV, e_notV, e_op, e_un, e_if, e_call, e_callB, e_cons, e_nil, e_tup, e_lst, e_nwF, e_c, e_var, e_sl, e_oSome, e_oNone, e_chain, e_lc, e_seqI, e_mt, e_frz, e_fgt, g_nm, g_tp, putAllS, putAll0, wipeS, wipe0, getS, get0, putS, put0, ok_some]
    refine ⟨.inl ⟨by decide, by decide⟩, by show 3 ≤ LIM; decide, rfl, ns, t, _, us', rfl, ht _, by omega, by simp, fun w us2 hw hu2 => ?_⟩
    rw [hsw]
    obtain ⟨k, rfl, k1, k2⟩ : ∃ k : Int, w = .int k ∧ 0 < k ∧ k ≤ 2 * c - 1 := by
      simp only [List.mem_cons, List.not_mem_nil, or_false] at hw
      rcases hw with e | e | e <;> subst e
      · exact ⟨4, rfl, by omega, by omega⟩
      · exact ⟨9, rfl, by omega, by omega⟩
      · exact ⟨_, rfl, by omega, by omega⟩
    refine ⟨rfl, ns, t, k, us2, rfl, k1, ht _, by omega, fun pl us3 p0 p1 hu3 => ?_⟩
    rw [hsw]
    refine ⟨by simp [tyM, sup_same], rfl, ns, t, _, us3, rfl, ht _, by omega, by decide, by decide, fun sc us4 hsc hu4 => ?_⟩
    rw [hsw]
    refine ⟨by show 3 ≤ LIM; decide, rfl, ns, t, _, us4, rfl, ht _, by omega, by simp, fun w us5 hw hu5 => ?_⟩
    rw [hsw]
    obtain ⟨rd, hrd⟩ : ∃ rd : Bool, w = if rd = true then wordD "red" else wordD "black" := by
      simp only [List.mem_cons, List.not_mem_nil, or_false] at hw
      rcases hw with e | e | e <;> subst e
      · exact ⟨false, rfl⟩
      · exact ⟨false, rfl⟩
      · exact ⟨true, rfl⟩
    subst hrd
    refine ⟨by show 3 ≤ LIM; decide, _, sup_same, by simp; omega, ?_⟩
    rw [sup_sup]
    refine hP _ _ ⟨js ++ [⟨pl, sc, rd⟩], us5, _, _, fun p hp => ?_, by simp; omega, by omega, by simp [ptD], rfl⟩
    rcases List.mem_append.mp hp with z | z
    · exact hj p z
    · simp only [List.mem_cons, List.not_mem_nil, or_false] at z
      subst z
      exact ⟨p0, by show pl ≤ 2 * c - 2; omega, by simpa [gSigns] using hsc⟩
  · rintro e m' ⟨js, us', v5, v6, hj, hjl, hul, rfl, rfl⟩
    simp only [List.length_nil] at hjl hul
    refine ⟨trivial, ?_⟩
    simp only [s_seq, s_if, s_set, s_ret, s_retN, s_next, s_exp, s_asg, s_for, s_par, s_raise, e_test, e_not, e_and, e_or, e_andV, e_orV, e_notV, e_op, e_un, e_if, e_call, e_callB, e_cons, e_nil, e_tup, e_lst, e_nwF, e_c, e_var, e_sl, e_oSome, e_oNone, e_chain, e_lc, e_seqI, e_mt, e_frz, e_fgt, g_nm, g_tp, putAllS, putAll0, wipeS, wipe0, getS, get0, putS, put0, ok_some]
    refine srtset_pt (ps := js) (fun p hp => ?_) (by omega) (fun K hK => ?_) fun ys nd hm1 hr => ?_
    · have : ∀ c ∈ gSigns, c < 128 := by decide
      exact this _ (hj p hp).2.2
    · simp only [s_seq, s_if, s_set, s_ret, s_retN, s_next, s_exp, s_asg, s_for, s_par, s_raise, e_test, e_not, e_and, e_or, e_andV, e_orV, e_notV, e_op, e_un, e_if, e_call, e_callB, e_cons, e_nil, e_tup, e_lst, e_nwF, e_c, e_var, e_sl, e_oSome, e_oNone, e_chain, e_lc, e_seqI, e_mt, e_frz, e_fgt, g_nm, g_tp, putAllS, putAll0, wipeS, wipe0, getS, get0, putS, put0, ok_some]
      exact hK _ (by simp only [asL, sup_same])
    · simp only [e_nwF, wTuple, asQ, asL, ok_some]
      have hlen := nodup_le nd (ds := js) fun p hp => (hm1 p).mp hp
      refine ⟨sup m t (.lst us'), fun b o hb => ?_, hR ys us' ⟨fun p hp => hj p ((hm1 p).mp hp), hr⟩ (by omega) (by omega)⟩
      by_cases e : b = a
      · subst e
        rw [sup_ne hat, na] at hb; cases hb
      · rw [sup_ne e]; exact hb
end DL
end
section
set_option maxHeartbeats 0
namespace DL
open PySem
inductive Path (g : Gm) : List Ky → Sn → Prop
  | nil : Path g [] (firstN g)
  | snoc {ks : List Ky} {s t : Sn} {k : Ky} : Path g ks s → (k, t) ∈ stepsN g s → Path g (ks ++ [k]) t
def Best (g : Gm) : Option (List Ky) → Prop
  | none => ∀ ks s, Path g ks s → s.left ≠ []
  | some ks => (∃ s, Path g ks s ∧ s.left = []) ∧ ∀ ks' s, Path g ks' s → s.left = [] → ks.length ≤ ks'.length
theorem look_app {f : Fd} {s : Sn} {x : Option (Ky × Sn)} (h : lookF f s = some x) (l : Fd) : lookF (f ++ l) s = some x := by
  induction f with
  | nil => cases h
  | cons y f ih =>
    simp only [List.cons_append, lookF] at h ⊢
    by_cases e : y.1 = s
    · rw [if_pos e] at h ⊢; exact h
    · rw [if_neg e] at h ⊢; exact ih h
theorem Way.app {f : Fd} {s : Sn} {ks : List Ky} (h : Way f s ks) (l : Fd) : Way (f ++ l) s ks := by
  induction h with
  | nil h => exact .nil (look_app h l)
  | snoc h _ ih => exact .snoc (look_app h l) ih
theorem look_last {f : Fd} {s : Sn} {x : Option (Ky × Sn)} (h : lookF f s = none) : lookF (f ++ [(s, x)]) s = some x := by
  induction f with
  | nil => simp [lookF]
  | cons y f ih =>
    simp only [List.cons_append, lookF] at h ⊢
    by_cases e : y.1 = s
    · rw [if_pos e] at h; cases h
    · rw [if_neg e] at h ⊢; exact ih h
theorem Way.det {f : Fd} {s : Sn} {ks ks' : List Ky} (h : Way f s ks) (h' : Way f s ks') : ks = ks' := by
  induction h generalizing ks' with
  | nil h =>
    cases h' with
    | nil _ => rfl
    | snoc h2 _ => rw [h] at h2; cases h2
  | snoc h _ ih =>
    cases h' with
    | nil h2 => rw [h] at h2; cases h2
    | snoc h2 w2 => rw [h] at h2; cases h2; rw [ih w2]
theorem Bfs.det {g : Gm} {f : Fd} {row : List Sn} {o o' : Option (List Ky)} (h : Bfs g f row o) (h' : Bfs g f row o') : o = o' := by
  induction h generalizing o' with
  | none =>
    cases h' with
    | none => rfl
    | some e _ _ => cases e
    | more e _ _ => exact absurd rfl e
  | some e w hl =>
    cases h' with
    | none => cases e
    | some e2 w2 _ => rw [e] at e2; cases e2; rw [w.det w2]
    | more _ e2 _ => rw [e] at e2; cases e2
  | more e1 e _ ih =>
    cases h' with
    | none => exact absurd rfl e1
    | some e2 _ _ => rw [e] at e2; cases e2
    | more _ e2 b => rw [e] at e2; cases e2; exact ih b
structure Sc (g : Gm) (n : Nat) (f0 : Fd) (pre : List Sn) (f : Fd) (new : List Sn) : Prop where
  fo : FdOk g f
  app : ∃ l : Fd, f = f0 ++ l ∧ l.map (·.1) = new
  way : ∀ s ∈ new, ∃ ks, Way f s ks ∧ Path g ks s ∧ ks.length = n + 1
  cl : ∀ s ∈ pre, ∀ q ∈ stepsN g s, q.2 ∈ f.map (·.1)
theorem Sc.keep {g : Gm} {n : Nat} {f0 f : Fd} {pre new : List Sn} (h : Sc g n f0 pre f new) {s : Sn} (hs : s ∈ f0.map (·.1)) : s ∈ f.map (·.1) := by
  obtain ⟨l, rfl, _⟩ := h.app
  rw [List.map_append, List.mem_append]; exact .inl hs
theorem grow_sc {g : Gm} {n : Nat} {f0 : Fd} {pre : List Sn} {s : Sn} {ks : List Ky} (w0 : Way f0 s ks) (p0 : Path g ks s) (hn : ks.length = n) (hs : SnOk g s) : ∀ (qs : List (Ky × Sn)) (f : Fd) (new : List Sn), (∀ q ∈ qs, q ∈ stepsN g s) → Sc g n f0 pre f new →
    Sc g n f0 pre (growN s qs f new).1 (growN s qs f new).2 ∧ (∀ x ∈ f.map (·.1), x ∈ (growN s qs f new).1.map (·.1)) ∧ ∀ q ∈ qs, q.2 ∈ (growN s qs f new).1.map (·.1)
  | [], f, new, _, h => ⟨h, fun _ z => z, fun _ z => nomatch z⟩
  | q :: qs, f, new, hq, h => by
    have hq' : ∀ z ∈ qs, z ∈ stepsN g s := fun z hz => hq z (List.mem_cons_of_mem _ hz)
    have hm := look_mem q.2 f
    simp only [growN]
    split
    · rename_i e
      rw [e] at hm
      have hm' : q.2 ∈ f.map (·.1) := of_decide_eq_true hm.symm
      obtain ⟨a, b, c⟩ := grow_sc w0 p0 hn hs qs f new hq' h
      refine ⟨a, b, fun z hz => ?_⟩
      rcases List.mem_cons.mp hz with rfl | hz
      · exact b _ hm'
      · exact c z hz
    · rename_i e
      have hnone : lookF f q.2 = none := by
        cases z : lookF f q.2 with
        | none => rfl
        | some y => rw [z] at e; exact absurd rfl e
      obtain ⟨l, hl1, hl2⟩ := h.app
      have h' : Sc g n f0 pre (f ++ [(q.2, some (q.1, s))]) (new ++ [q.2]) := by
        refine ⟨fd_grow h.fo (steps_ok hs q (hq q List.mem_cons_self)) hnone, ⟨l ++ [(q.2, some (q.1, s))], by rw [hl1, List.append_assoc], by rw [List.map_append, hl2]; rfl⟩, fun t ht => ?_, fun t ht z hz => ?_⟩
        · rcases List.mem_append.mp ht with z | z
          · obtain ⟨ks', a, b, c⟩ := h.way t z
            exact ⟨ks', a.app _, b, c⟩
          · simp only [List.mem_cons, List.not_mem_nil, or_false] at z
            subst z
            refine ⟨ks ++ [q.1], .snoc (look_last hnone) (by rw [hl1, List.append_assoc]; exact w0.app _), .snoc p0 (hq q List.mem_cons_self), by simp [hn]⟩
        · rw [List.map_append, List.mem_append]; exact .inl (h.cl t ht z hz)
      obtain ⟨a, b, c⟩ := grow_sc w0 p0 hn hs qs _ _ hq' h'
      refine ⟨a, fun x hx => b x (by rw [List.map_append, List.mem_append]; exact .inl hx), fun z hz => ?_⟩
      rcases List.mem_cons.mp hz with rfl | hz
      · exact b _ (by simp)
      · exact c z hz
theorem scan_sc {g : Gm} {n : Nat} {f0 : Fd} : ∀ (r pre : List Sn) (f : Fd) (new : List Sn), (∀ s ∈ r, s ∈ f0.map (·.1) ∧ SnOk g s ∧ ∃ ks, Way f0 s ks ∧ Path g ks s ∧ ks.length = n) → Sc g n f0 pre f new →
    (∃ s f', scanN g r f new = .inl (s, f') ∧ s ∈ r ∧ s.left = [] ∧ ∃ l, f' = f0 ++ l) ∨ ∃ f' new', scanN g r f new = .inr (f', new') ∧ Sc g n f0 (pre ++ r) f' new' ∧ ∀ s ∈ r, s.left ≠ []
  | [], pre, f, new, _, h => .inr ⟨f, new, rfl, by simpa using h, fun s hs => nomatch hs⟩
  | s :: r, pre, f, new, hr, h => by
    obtain ⟨hs0, hs1, ks, w0, p0, hn⟩ := hr s List.mem_cons_self
    simp only [scanN]
    by_cases hl : s.left = []
    · rw [if_pos hl]
      obtain ⟨l, e, _⟩ := h.app
      exact .inl ⟨s, f, rfl, List.mem_cons_self, hl, l, e⟩
    · rw [if_neg hl]
      obtain ⟨a, b, c⟩ := grow_sc w0 p0 hn hs1 (stepsN g s) f new (fun _ z => z) h
      have h' : Sc g n f0 (pre ++ [s]) (growN s (stepsN g s) f new).1 (growN s (stepsN g s) f new).2 := ⟨a.fo, a.app, a.way, fun t ht q hq => by
        rcases List.mem_append.mp ht with z | z
        · exact a.cl t z q hq
        · simp only [List.mem_cons, List.not_mem_nil, or_false] at z
          subst z; exact c q hq⟩
      rcases scan_sc r (pre ++ [s]) _ _ (fun z hz => hr z (List.mem_cons_of_mem _ hz)) h' with ⟨s', f', e1, e2, e3, e4⟩ | ⟨f', new', e1, e2, e3⟩
      · exact .inl ⟨s', f', e1, List.mem_cons_of_mem _ e2, e3, e4⟩
      · refine .inr ⟨f', new', e1, by simpa using e2, fun z hz => ?_⟩
        rcases List.mem_cons.mp hz with rfl | hz
        · exact hl
        · exact e3 z hz
structure Lv (g : Gm) (n : Nat) (f : Fd) (row : List Sn) : Prop where
  fo : FdOk g f
  rws : ∀ s ∈ row, s ∈ f.map (·.1) ∧ ∃ ks, Way f s ks ∧ Path g ks s ∧ ks.length = n
  all : ∀ ks s, Path g ks s → ks.length ≤ n → s ∈ f.map (·.1)
  rest : ∀ s ∈ f.map (·.1), s ∈ row ∨ ∃ ks, Path g ks s ∧ ks.length < n
  no : ∀ ks s, Path g ks s → ks.length < n → s.left ≠ []
  len : n < f.length
theorem Lv.next {g : Gm} {n : Nat} {f : Fd} {row : List Sn} (h : Lv g n f row) {f' : Fd} {new : List Sn} (hs : Sc g n f row f' new) (hl : ∀ s ∈ row, s.left ≠ []) (hne : new ≠ []) : Lv g (n + 1) f' new := by
  obtain ⟨l, e1, e2⟩ := hs.app
  have hlen : 1 ≤ l.length := by
    cases l with
    | nil => rw [← e2] at hne; exact absurd rfl hne
    | cons _ _ => simp
  refine ⟨hs.fo, fun s hs' => ⟨?_, hs.way s hs'⟩, fun ks s p hp => ?_, fun s hs' => ?_, fun ks s p hp => ?_, ?_⟩
  · rw [e1, List.map_append, List.mem_append, e2]; exact .inr hs'
  · cases p with
    | nil => exact hs.keep (h.all [] _ .nil (Nat.zero_le _))
    | @snoc ks s' _ k p st =>
      simp only [List.length_append, List.length_cons, List.length_nil] at hp
      rcases h.rest s' (h.all ks s' p (by omega)) with z | ⟨ks', p', hp'⟩
      · exact hs.cl s' z (k, s) st
      · exact hs.keep (h.all (ks' ++ [k]) s (.snoc p' st) (by simp; omega))
  · rw [e1, List.map_append, List.mem_append, e2] at hs'
    rcases hs' with z | z
    · rcases h.rest s z with y | ⟨ks, p, hp⟩
      · obtain ⟨_, ks, _, p, hp⟩ := h.rws s y
        exact .inr ⟨ks, p, by omega⟩
      · exact .inr ⟨ks, p, by omega⟩
    · exact .inl z
  · rcases h.rest s (h.all ks s p (by omega)) with y | ⟨ks', p', hp'⟩
    · exact hl s y
    · exact h.no ks' s p' hp'
  · rw [e1, List.length_append]; have := h.len; omega
theorem Lv.stop {g : Gm} {n : Nat} {f : Fd} {row : List Sn} (h : Lv g n f row) {f' : Fd} (hs : Sc g n f row f' []) (hl : ∀ s ∈ row, s.left ≠ []) : ∀ ks s, Path g ks s → s ∈ f.map (·.1) := by
  obtain ⟨l, e1, e2⟩ := hs.app
  have el : l = [] := by simpa using e2
  subst el
  rw [List.append_nil] at e1
  subst e1
  intro ks s p
  induction p with
  | nil => exact h.all [] _ .nil (Nat.zero_le _)
  | @snoc ks s' t k p st ih =>
    rcases h.rest s' ih with y | ⟨ks', p', hp'⟩
    · exact hs.cl s' y (k, t) st
    · exact h.all (ks' ++ [k]) t (.snoc p' st) (by simp; omega)
theorem bfs_main {g : Gm} (hg : g.ok) : ∀ (fuel n : Nat) (f : Fd) (row : List Sn), Lv g n f row → row ≠ [] → 10368 < f.length + fuel → ∃ o, Bfs g f row o ∧ Best g o
  | 0, n, f, row, h, _, hf => by have := fd_len hg h.fo; omega
  | fuel + 1, n, f, row, h, hne, hf => by
    have hr : ∀ s ∈ row, s ∈ f.map (·.1) ∧ SnOk g s ∧ ∃ ks, Way f s ks ∧ Path g ks s ∧ ks.length = n := fun s hs => by
      obtain ⟨a, b⟩ := h.rws s hs
      obtain ⟨x, hx, e⟩ := List.mem_map.mp a
      exact ⟨a, e ▸ h.fo.ok x hx, b⟩
    have hl := fd_len hg h.fo
    have hn := h.len
    rcases scan_sc row [] f [] hr ⟨h.fo, ⟨[], by simp, rfl⟩, (fun s hs => by cases hs), (fun s hs => by cases hs)⟩ with ⟨s, f', e1, e2, e3, l, rfl⟩ | ⟨f', new, e1, e2, e3⟩
    · obtain ⟨_, _, ks, w, p, hk⟩ := hr s e2
      refine ⟨some ks, .some e1 (w.app l) (by omega), ⟨s, p, e3⟩, fun ks' s' p' hs' => ?_⟩
      rcases Nat.lt_or_ge ks'.length ks.length with z | z
      · exact absurd hs' (h.no ks' s' p' (by omega))
      · exact z
    · rw [List.nil_append] at e2
      cases new with
      | nil =>
        refine ⟨none, .more hne e1 .none, fun ks s p => ?_⟩
        rcases h.rest s (h.stop e2 e3 ks s p) with y | ⟨ks', p', hp'⟩
        · exact e3 s y
        · exact h.no ks' s p' hp'
      | cons t new =>
        have h' := h.next e2 e3 (by simp)
        obtain ⟨o, b, c⟩ := bfs_main hg fuel (n + 1) f' (t :: new) h' (by simp) (by
          have := h'.len
          obtain ⟨l, e4, e5⟩ := e2.app
          have : 1 ≤ l.length := by cases l with
            | nil => cases e5
            | cons _ _ => simp
          rw [e4, List.length_append]; omega)
        exact ⟨o, .more hne e1 b, c⟩
theorem fewest_ex {g : Gm} (hg : g.ok) : ∃ o, Fewest g o ∧ Best g o := by
  have hs0 : SnOk g (firstN g) := ⟨by show (0 : Int) ≤ 0; omega, by have := hg.1; show (0 : Int) ≤ g.e; omega, List.Sublist.refl _⟩
  refine bfs_main hg 10368 0 _ _ ⟨⟨by simp, fun x hx => by simp at hx; subst hx; exact hs0⟩, fun s hs => ?_, fun ks s p hp => ?_, fun s hs => .inl (by simpa using hs), fun ks s p hp => by omega, by simp⟩ (by simp) (by simp)
  · simp at hs
    subst hs
    exact ⟨by simp, [], .nil (by simp [lookF]), .nil, rfl⟩
  · cases p with
    | nil => simp
    | snoc _ _ => simp at hp
theorem Fewest.best {g : Gm} (hg : g.ok) {o : Option (List Ky)} (h : Fewest g o) : Best g o := by
  obtain ⟨o', h', b⟩ := fewest_ex hg
  rw [Bfs.det h h']; exact b
end DL
end
section
set_option maxHeartbeats 0
namespace DL
open PySem
def mvs (g : Gm) (p : Int) : List Int := ([p + 2, p + 1, p - 2] ++ (g.tabs.filter fun t => decide (p < t)).take 1).filter fun q => inB g q
inductive Mv (g : Gm) : Nat → Int → Int → Prop
  | z {p : Int} : Mv g 0 p p
  | s {n : Nat} {p q r : Int} : q ∈ mvs g p → Mv g n q r → Mv g (n + 1) p r
def capsOf (c : Nat) (b : Bool) : Bool := if isGreat c = true then true else if isSmall c = true then false else b
theorem great_not_small {c : Nat} (h : isGreat c = true) : isSmall c = false := by
  unfold isGreat at h; unfold isSmall
  simp only [decide_eq_true_eq] at h
  refine decide_eq_false ?_
  omega
theorem can_caps (c : Nat) (b : Bool) : canB c b = true ↔ capsOf c b = b := by
  unfold canB capsOf
  cases h1 : isGreat c <;> cases h2 : isSmall c <;> cases b <;> simp
def pCost (q : Pt) (r c : Bool) : Nat := (if r = q.red then 0 else 1) + (if capsOf q.sign c = c then 0 else 1) + 1
def pNext (g : Gm) (q : Pt) : Int := if q.sign ∈ g.dead then q.place else q.place + 2
inductive Pr (g : Gm) : Int → Bool → Bool → List Pt → Nat → Prop
  | nil {p : Int} {r c : Bool} : Pr g p r c [] 0
  | cons {p : Int} {r c : Bool} {q : Pt} {qs : List Pt} {a n : Nat} : Mv g a p q.place → q.place + 2 ≤ g.e → Pr g (pNext g q) q.red (capsOf q.sign c) qs n → Pr g p r c (q :: qs) (a + pCost q r c + n)
inductive PathC (g : Gm) : Sn → List Ky → Sn → Prop
  | nil {s : Sn} : PathC g s [] s
  | cons {s t u : Sn} {k : Ky} {ks : List Ky} : (k, t) ∈ stepsN g s → PathC g t ks u → PathC g s (k :: ks) u
theorem PathC.snoc {g : Gm} {s t u : Sn} {ks : List Ky} {k : Ky} (h : PathC g s ks t) (h' : (k, u) ∈ stepsN g t) : PathC g s (ks ++ [k]) u := by
  induction h with
  | nil => exact .cons h' .nil
  | cons e _ ih => exact .cons e (ih h')
theorem PathC.trans {g : Gm} {s t u : Sn} {ks ks' : List Ky} (h : PathC g s ks t) (h' : PathC g t ks' u) : PathC g s (ks ++ ks') u := by
  induction h with
  | nil => exact h'
  | cons e _ ih => exact .cons e (ih h')
theorem path_c {g : Gm} {ks : List Ky} {s : Sn} (h : Path g ks s) : PathC g (firstN g) ks s := by
  induction h with
  | nil => exact .nil
  | snoc _ e ih => exact ih.snoc e
theorem path_app {g : Gm} {ks ks' : List Ky} {s t : Sn} (h : Path g ks s) (h' : PathC g s ks' t) : Path g (ks ++ ks') t := by
  induction h' generalizing ks with
  | nil => simpa using h
  | cons e _ ih => have := ih (h.snoc e); simpa using this
theorem path_of {g : Gm} {ks : List Ky} {s : Sn} (h : PathC g (firstN g) ks s) : Path g ks s := by simpa using path_app .nil h
def partsOf (g : Gm) (l : List Nat) : List Pt := l.filterMap (g.ps[·]?)
theorem parts_nil {g : Gm} {l : List Nat} (h : l.Sublist (List.range g.ps.length)) (e : partsOf g l = []) : l = [] := by
  cases l with
  | nil => rfl
  | cons i l =>
    have hi : i < g.ps.length := by
      have := h.subset List.mem_cons_self
      simpa using this
    unfold partsOf at e
    rw [List.filterMap_cons, List.getElem?_eq_getElem hi] at e
    cases e
theorem parts_drop {g : Gm} {i : Nat} {p : Pt} (hp : g.ps[i]? = some p) : ∀ {l : List Nat}, l.Nodup → i ∈ l → (partsOf g l).Perm (p :: partsOf g (l.filter fun j => decide (j ≠ i)))
  | [], _, h => by cases h
  | j :: l, hn, h => by
    obtain ⟨h1, h2⟩ := List.nodup_cons.mp hn
    by_cases e : j = i
    · subst e
      have ef : (j :: l).filter (fun k => decide (k ≠ j)) = l := by
        rw [List.filter_cons_of_neg (by simp), List.filter_eq_self]
        intro k hk
        exact decide_eq_true fun z => h1 (z ▸ hk)
      rw [ef]
      unfold partsOf
      rw [List.filterMap_cons, hp]
    · have hi : i ∈ l := by
        rcases List.mem_cons.mp h with z | z
        · exact absurd z.symm e
        · exact z
      have ih := parts_drop hp h2 hi
      rw [List.filter_cons_of_pos (by simp [e])]
      unfold partsOf at ih ⊢
      rw [List.filterMap_cons, List.filterMap_cons]
      cases hj : g.ps[j]? with
      | none => exact ih
      | some q => exact (ih.cons q).trans (.swap p q _)
theorem parts_all (g : Gm) : partsOf g (List.range g.ps.length) = g.ps := by
  unfold partsOf
  apply List.ext_getElem?
  intro k
  have : (List.range g.ps.length).filterMap (g.ps[·]?) = (List.range g.ps.length).map fun i => (g.ps[i]?).getD ⟨0, 0, false⟩ := by
    have : ∀ l : List Nat, (∀ i ∈ l, i < g.ps.length) → l.filterMap (g.ps[·]?) = l.map fun i => (g.ps[i]?).getD ⟨0, 0, false⟩ := by
      intro l hl
      induction l with
      | nil => rfl
      | cons i l ih =>
        have hi := hl i List.mem_cons_self
        rw [List.filterMap_cons, List.getElem?_eq_getElem hi, List.map_cons, List.getElem?_eq_getElem hi, ih fun j hj => hl j (List.mem_cons_of_mem _ hj)]
        rfl
    exact this _ fun i hi => by simpa using hi
  rw [this, List.getElem?_map]
  rcases Nat.lt_or_ge k g.ps.length with h | h
  · rw [List.getElem?_range h, List.getElem?_eq_getElem h]; simp [List.getElem?_eq_getElem h]
  · rw [List.getElem?_eq_none (by simpa using h), List.getElem?_eq_none h]; rfl
theorem mem_parts {g : Gm} {l : List Nat} {p : Pt} (h : p ∈ partsOf g l) : ∃ i ∈ l, g.ps[i]? = some p := by
  unfold partsOf at h
  simpa [List.mem_filterMap] using h
inductive Kd (g : Gm) (s : Sn) : Ky × Sn → Prop
  | hit {i : Nat} {p : Pt} : g.ps[i]? = some p → i ∈ s.left → p.place = s.place → p.red = s.red → canB p.sign s.caps = true → s.place + 2 ≤ g.e → Kd g s (struckN g s i p)
  | mv {k : Ky} {q : Int} : (k, q) ∈ movesN g s → inB g q = true → Kd g s (k, { s with place := q })
  | rib : Kd g s (.ribbon, { s with red := !s.red })
  | cap : Kd g s (.caps, { s with caps := !s.caps })
theorem strikes_kd {g : Gm} {s : Sn} : ∀ (ps : List Pt) (i : Nat), (∀ j p, ps[j]? = some p → g.ps[i + j]? = some p) → ∀ q ∈ strikesN g s i ps, Kd g s q
  | [], _, _, q, hq => by cases hq
  | p :: r, i, h, q, hq => by
    simp only [strikesN, List.mem_append] at hq
    rcases hq with hq | hq
    · split at hq
      · rename_i hh
        simp only [List.mem_cons, List.not_mem_nil, or_false] at hq
        subst hq
        simp only [hit, Bool.and_eq_true, decide_eq_true_eq] at hh
        obtain ⟨h1, h2, h3, h4, h5⟩ := hh
        exact .hit (h 0 p rfl) h1 h2 h3 h4 h5
      · cases hq
    · refine strikes_kd r (i + 1) (fun j p' hp => ?_) q hq
      have := h (j + 1) p' (by simpa using hp)
      rw [show i + 1 + j = i + (j + 1) by omega]; exact this
theorem strikes_mem {g : Gm} {s : Sn} {p : Pt} : ∀ (ps : List Pt) (i j : Nat), ps[j]? = some p → hit g s (i + j) p = true → struckN g s (i + j) p ∈ strikesN g s i ps
  | [], _, _, h, _ => by simp at h
  | p' :: r, i, 0, h, hh => by
    simp at h
    subst h
    simp only [Nat.add_zero] at hh
    simp only [strikesN, List.mem_append, Nat.add_zero, hh, if_true]
    exact .inl (by simp)
  | p' :: r, i, j + 1, h, hh => by
    simp only [strikesN, List.mem_append]
    have e : i + (j + 1) = (i + 1) + j := by omega
    rw [e] at hh ⊢
    exact .inr (strikes_mem r (i + 1) j (by simpa using h) hh)
theorem step_kd {g : Gm} {s : Sn} {q : Ky × Sn} : q ∈ stepsN g s ↔ Kd g s q := by
  constructor
  · intro h
    simp only [stepsN, List.mem_append, List.mem_map, List.mem_filter, List.mem_cons, List.not_mem_nil, or_false] at h
    rcases h with (h | ⟨x, ⟨h1, h2⟩, rfl⟩) | rfl | rfl
    · exact strikes_kd g.ps 0 (fun j p hp => by rw [Nat.zero_add]; exact hp) q h
    · exact .mv h1 h2
    · exact .rib
    · exact .cap
  · intro h
    simp only [stepsN, List.mem_append, List.mem_map, List.mem_filter, List.mem_cons, List.not_mem_nil, or_false]
    cases h with
    | @hit i p h1 h2 h3 h4 h5 h6 =>
      refine .inl (.inl ?_)
      have := strikes_mem (g := g) (s := s) g.ps 0 i h1 (by simp only [hit, Nat.zero_add, h2, h3, h4, h5, h6, decide_true, Bool.and_self])
      simpa using this
    | @mv k q h1 h2 => exact .inl (.inr ⟨(k, q), ⟨h1, h2⟩, rfl⟩)
    | rib => exact .inr (.inl rfl)
    | cap => exact .inr (.inr rfl)
theorem moves_mvs {g : Gm} {s : Sn} {k : Ky} {q : Int} (h : (k, q) ∈ movesN g s) (hb : inB g q = true) : q ∈ mvs g s.place := by
  unfold mvs
  refine List.mem_filter.mpr ⟨?_, hb⟩
  simp only [movesN, List.mem_append, List.mem_cons, List.not_mem_nil, or_false, List.mem_map, Prod.mk.injEq] at h
  simp only [List.mem_append, List.mem_cons, List.not_mem_nil, or_false]
  rcases h with (h | h | h) | ⟨t, h1, h2⟩
  · exact .inl (.inl h.2)
  · exact .inl (.inr (.inl h.2))
  · exact .inl (.inr (.inr h.2))
  · exact .inr (h2.2 ▸ h1)
theorem mvs_moves {g : Gm} {s : Sn} {q : Int} (h : q ∈ mvs g s.place) : ∃ k, (k, q) ∈ movesN g s ∧ inB g q = true := by
  unfold mvs at h
  obtain ⟨h, hb⟩ := List.mem_filter.mp h
  simp only [List.mem_append, List.mem_cons, List.not_mem_nil, or_false] at h
  simp only [movesN, List.mem_append, List.mem_cons, List.not_mem_nil, or_false, List.mem_map, Prod.mk.injEq]
  rcases h with (h | h | h) | h
  · exact ⟨.blank, .inl (.inl ⟨rfl, h⟩), hb⟩
  · exact ⟨.half, .inl (.inr (.inl ⟨rfl, h⟩)), hb⟩
  · exact ⟨.back, .inl (.inr (.inr ⟨rfl, h⟩)), hb⟩
  · exact ⟨.tab, .inr ⟨q, h, rfl, rfl⟩, hb⟩
theorem pr_caps {g : Gm} : ∀ {qs : List Pt} {p : Int} {r c : Bool} {n : Nat}, Pr g p r (!c) qs n → ∃ n', Pr g p r c qs n' ∧ n' ≤ n + 1
  | [], _, _, _, _, h => by cases h; exact ⟨0, .nil, by omega⟩
  | q :: qs, p, r, c, _, h => by
    cases h with
    | @cons _ _ _ _ _ a n h1 h2 h3 =>
      by_cases hc : capsOf q.sign (!c) = capsOf q.sign c
      · rw [hc] at h3
        refine ⟨a + pCost q r c + n, .cons h1 h2 h3, ?_⟩
        unfold pCost
        split <;> split <;> split <;> omega
      · have e1 : capsOf q.sign (!c) = !c := by
          unfold capsOf at hc ⊢
          revert hc
          cases isGreat q.sign <;> cases isSmall q.sign <;> cases c <;> simp
        have e2 : capsOf q.sign c = c := by
          unfold capsOf at hc ⊢
          revert hc
          cases isGreat q.sign <;> cases isSmall q.sign <;> cases c <;> simp
        rw [e1] at h3
        obtain ⟨n', h4, h5⟩ := pr_caps h3
        refine ⟨a + pCost q r c + n', .cons h1 h2 (by rw [e2]; exact h4), ?_⟩
        unfold pCost
        rw [e1, e2]
        simp only [if_true]; omega
theorem order_of {g : Gm} {s t : Sn} {ks : List Ky} (h : PathC g s ks t) : SnOk g s → t.left = [] → ∃ qs n, qs.Perm (partsOf g s.left) ∧ Pr g s.place s.red s.caps qs n ∧ n ≤ ks.length := by
  induction h with
  | nil => intro _ e; exact ⟨[], 0, by rw [e]; exact .refl _, .nil, Nat.le_refl _⟩
  | @cons s s1 t k ks e _ ih =>
    intro hs ht
    obtain ⟨qs, n, h1, h2, h3⟩ := ih (steps_ok hs _ e) ht
    have hk := step_kd.mp e
    simp only [List.length_cons]
    generalize hq : (k, s1) = q at hk
    cases hk with
    | @hit i p g1 g2 g3 g4 g5 g6 =>
      have e1 : s1 = (struckN g s i p).2 := by rw [← hq]
      subst e1
      have hnd : s.left.Nodup := hs.2.2.nodup List.nodup_range
      have hcap := (can_caps p.sign s.caps).mp g5
      have h2' : Pr g (pNext g p) p.red (capsOf p.sign s.caps) qs n := by
        rw [hcap, g4]
        unfold pNext
        rw [g3]
        exact h2
      refine ⟨p :: qs, 0 + pCost p s.red s.caps + n, ?_, .cons (by rw [g3]; exact .z) (by omega) h2', ?_⟩
      · exact (h1.cons p).trans (parts_drop g1 hnd g2).symm
      · unfold pCost
        rw [g4, hcap]
        simp only [if_true]; omega
    | @mv k' q' g1 g2 =>
      cases hq
      have hm := moves_mvs g1 g2
      cases qs with
      | nil =>
        cases h2
        exact ⟨[], 0, h1, .nil, Nat.zero_le _⟩
      | cons q qs =>
        cases h2 with
        | @cons _ _ _ _ _ a n a1 a2 a3 => exact ⟨q :: qs, (a + 1) + pCost q s.red s.caps + n, h1, .cons (.s hm a1) a2 a3, by simp only at h3; omega⟩
    | rib =>
      cases hq
      cases qs with
      | nil =>
        cases h2
        exact ⟨[], 0, h1, .nil, Nat.zero_le _⟩
      | cons q qs =>
        cases h2 with
        | @cons _ _ _ _ _ a n a1 a2 a3 =>
          refine ⟨q :: qs, a + pCost q s.red s.caps + n, h1, .cons a1 a2 a3, ?_⟩
          unfold pCost at h3 ⊢
          simp only at h3
          have : (if s.red = q.red then 0 else 1) ≤ (if (!s.red) = q.red then 0 else 1) + 1 := by cases s.red <;> cases q.red <;> simp
          omega
    | cap =>
      cases hq
      obtain ⟨n', a1, a2⟩ := pr_caps h2
      exact ⟨qs, n', h1, a1, by omega⟩
theorem mv_path {g : Gm} {n : Nat} {p q : Int} (h : Mv g n p q) : ∀ s : Sn, s.place = p → ∃ ks, PathC g s ks { s with place := q } ∧ ks.length = n := by
  induction h with
  | z =>
    intro s e
    subst e
    exact ⟨[], .nil, rfl⟩
  | @s n p q r hm _ ih =>
    intro s e
    subst e
    obtain ⟨k, h1, h2⟩ := mvs_moves hm
    obtain ⟨ks, h3, h4⟩ := ih { s with place := q } rfl
    exact ⟨k :: ks, .cons (step_kd.mpr (.mv h1 h2)) h3, by simp [h4]⟩
theorem Mv.nn {g : Gm} {n : Nat} {a b : Int} (h : Mv g n a b) : 0 ≤ a → 0 ≤ b := by
  induction h with
  | z => exact id
  | s hm _ ih =>
    intro _
    refine ih ?_
    obtain ⟨_, hb⟩ := List.mem_filter.mp hm
    simp only [inB, Bool.and_eq_true, decide_eq_true_eq] at hb
    exact hb.1
theorem path_of_order {g : Gm} {p : Int} {r c : Bool} {qs : List Pt} {n : Nat} (h : Pr g p r c qs n) : ∀ s : Sn, SnOk g s → s.place = p → s.red = r → s.caps = c → qs.Perm (partsOf g s.left) → ∃ ks t, PathC g s ks t ∧ t.left = [] ∧ ks.length = n := by
  induction h with
  | nil =>
    intro s hs _ _ _ hp
    exact ⟨[], s, .nil, parts_nil hs.2.2 hp.symm.eq_nil, rfl⟩
  | @cons p r c q qs a n h1 h2 _ ih =>
    intro s hs e1 e2 e3 hp
    subst e1 e2 e3
    obtain ⟨i, hi, gi⟩ := mem_parts (hp.subset List.mem_cons_self)
    obtain ⟨ks1, p1, l1⟩ := mv_path h1 s rfl
    have p2 : ∃ ks2, PathC g { s with place := q.place } ks2 { s with place := q.place, red := q.red } ∧ ks2.length = if s.red = q.red then 0 else 1 := by
      by_cases e : s.red = q.red
      · rw [if_pos e]; exact ⟨[], by rw [← e]; exact .nil, rfl⟩
      · rw [if_neg e]
        have e' : q.red = !s.red := by cases h1 : s.red <;> cases h2 : q.red <;> simp_all
        refine ⟨[.ribbon], .cons (step_kd.mpr ?_) .nil, rfl⟩
        rw [e']; exact Kd.rib (s := { s with place := q.place })
    obtain ⟨ks2, p2, l2⟩ := p2
    have p3 : ∃ ks3, PathC g { s with place := q.place, red := q.red } ks3 { s with place := q.place, red := q.red, caps := capsOf q.sign s.caps } ∧ ks3.length = if capsOf q.sign s.caps = s.caps then 0 else 1 := by
      by_cases e : capsOf q.sign s.caps = s.caps
      · rw [if_pos e]; exact ⟨[], by rw [e]; exact .nil, rfl⟩
      · rw [if_neg e]
        have e' : capsOf q.sign s.caps = !s.caps := by cases h1 : s.caps <;> cases h2 : capsOf q.sign s.caps <;> simp_all
        refine ⟨[.caps], .cons (step_kd.mpr ?_) .nil, rfl⟩
        rw [e']; exact Kd.cap (s := { s with place := q.place, red := q.red })
    obtain ⟨ks3, p3, l3⟩ := p3
    have hcan : canB q.sign (capsOf q.sign s.caps) = true := by
      rw [can_caps]
      unfold capsOf
      cases isGreat q.sign <;> cases isSmall q.sign <;> simp
    have st := step_kd.mpr (Kd.hit (g := g) (s := { s with place := q.place, red := q.red, caps := capsOf q.sign s.caps }) gi hi rfl rfl hcan h2)
    have hnd : s.left.Nodup := hs.2.2.nodup List.nodup_range
    have hperm : qs.Perm (partsOf g (s.left.filter fun j => decide (j ≠ i))) := (hp.trans (parts_drop gi hnd hi)).cons_inv
    have hok : SnOk g (struckN g { s with place := q.place, red := q.red, caps := capsOf q.sign s.caps } i q).2 := by
      have hin : 0 ≤ q.place := h1.nn hs.1
      refine ⟨?_, ?_, List.Sublist.trans List.filter_sublist hs.2.2⟩
      · simp only [struckN]; split <;> omega
      · simp only [struckN]; split <;> omega
    obtain ⟨ks, t, q1, q2, q3⟩ := ih _ hok rfl rfl rfl hperm
    refine ⟨ks1 ++ (ks2 ++ (ks3 ++ (.sign (loC q.sign) :: ks))), t, p1.trans (p2.trans (p3.trans (.cons st q1))), q2, ?_⟩
    simp only [List.length_append, List.length_cons, l1, l2, l3, q3, pCost]
    omega
theorem best_price {g : Gm} (hg : g.ok) {o : Option (List Ky)} (h : Best g o) : match o with
    | none => ∀ qs n, qs.Perm g.ps → ¬ Pr g 0 false false qs n
    | some ks => (∃ qs, qs.Perm g.ps ∧ Pr g 0 false false qs ks.length) ∧ ∀ qs n, qs.Perm g.ps → Pr g 0 false false qs n → ks.length ≤ n := by
  have hs0 : SnOk g (firstN g) := ⟨by show (0 : Int) ≤ 0; omega, by have := hg.1; show (0 : Int) ≤ g.e; omega, List.Sublist.refl _⟩
  have hall : partsOf g (firstN g).left = g.ps := parts_all g
  cases o with
  | none =>
    intro qs n hp hq
    obtain ⟨ks, t, h1, h2, h3⟩ := path_of_order hq (firstN g) hs0 rfl rfl rfl (by rw [hall]; exact hp)
    exact h ks t (path_of h1) h2
  | some ks =>
    obtain ⟨⟨s, p, hs⟩, hmin⟩ := h
    have hle : ∀ qs n, qs.Perm g.ps → Pr g 0 false false qs n → ks.length ≤ n := fun qs n hp hq => by
      obtain ⟨ks', t, h1, h2, h3⟩ := path_of_order hq (firstN g) hs0 rfl rfl rfl (by rw [hall]; exact hp)
      rw [← h3]; exact hmin ks' t (path_of h1) h2
    obtain ⟨qs, n, h1, h2, h3⟩ := order_of (path_c p) hs0 hs
    rw [hall] at h1
    have := hle qs n h1 h2
    have e : n = ks.length := by omega
    rw [e] at h2
    exact ⟨⟨qs, h1, h2⟩, hle⟩
end DL
end
section
set_option maxHeartbeats 0
namespace DL
open PySem
theorem mem_mvs {g : Gm} {p q : Int} (h : q = p + 2 ∨ q = p + 1 ∨ q = p - 2) (h0 : 0 ≤ q) (h1 : q ≤ g.e) : q ∈ mvs g p := by
  unfold mvs
  refine List.mem_filter.mpr ⟨?_, by simp [inB, h0, h1]⟩
  simp only [List.mem_append, List.mem_cons, List.not_mem_nil, or_false]
  exact .inl h
theorem mv_up {g : Gm} : ∀ (n : Nat) (p q : Int), q = p + n → 0 ≤ p → q ≤ g.e → Mv g n p q
  | 0, p, q, e, _, _ => by have : q = p := by omega
                           rw [this]; exact .z
  | n + 1, p, q, e, h0, h1 => .s (q := p + 1) (mem_mvs (.inr (.inl rfl)) (by omega) (by omega)) (mv_up n (p + 1) q (by omega) (by omega) h1)
theorem mv_dn {g : Gm} (he : 2 ≤ g.e) : ∀ (n : Nat) (p q : Int), p = q + n → 0 ≤ q → p ≤ g.e → ∃ k, Mv g k p q ∧ k ≤ n + 2
  | 0, p, q, e, _, _ => ⟨0, by have : q = p := by omega
                               rw [this]; exact .z, by omega⟩
  | 1, p, q, e, h0, h1 => by
    by_cases hq : q = 0
    · exact ⟨2, .s (q := p + 1) (mem_mvs (.inr (.inl rfl)) (by omega) (by omega)) (.s (q := q) (mem_mvs (.inr (.inr (by omega))) h0 (by omega)) .z), by omega⟩
    · exact ⟨2, .s (q := p - 2) (mem_mvs (.inr (.inr rfl)) (by omega) (by omega)) (.s (q := q) (mem_mvs (.inr (.inl (by omega))) h0 (by omega)) .z), by omega⟩
  | n + 2, p, q, e, h0, h1 => by
    obtain ⟨k, h2, h3⟩ := mv_dn he n (p - 2) q (by omega) h0 (by omega)
    exact ⟨k + 1, .s (mem_mvs (.inr (.inr rfl)) (by omega) (by omega)) h2, by omega⟩
theorem mv_ex {g : Gm} (he : 2 ≤ g.e) {p q : Int} (hp : 0 ≤ p ∧ p ≤ g.e) (hq : 0 ≤ q ∧ q ≤ g.e) : ∃ k, Mv g k p q ∧ (k : Int) ≤ g.e + 2 := by
  by_cases h : p ≤ q
  · exact ⟨(q - p).toNat, mv_up _ p q (by omega) hp.1 hq.2, by omega⟩
  · obtain ⟨k, h1, h2⟩ := mv_dn he (p - q).toNat p q (by omega) hq.1 hp.2
    exact ⟨k, h1, by omega⟩
theorem pr_ex {g : Gm} (he : 2 ≤ g.e) : ∀ (qs : List Pt) (p : Int) (r c : Bool), 0 ≤ p ∧ p ≤ g.e → (∀ q ∈ qs, 0 ≤ q.place ∧ q.place + 2 ≤ g.e) → ∃ n, Pr g p r c qs n ∧ (n : Int) ≤ qs.length * (g.e + 5)
  | [], p, r, c, _, _ => ⟨0, .nil, by simp⟩
  | q :: qs, p, r, c, hp, hq => by
    obtain ⟨h0, h1⟩ := hq q List.mem_cons_self
    obtain ⟨a, ha, hb⟩ := mv_ex he hp (q := q.place) ⟨h0, by omega⟩
    obtain ⟨n, hn, hc⟩ := pr_ex he qs (pNext g q) q.red (capsOf q.sign c) (by unfold pNext; split <;> omega) fun z hz => hq z (List.mem_cons_of_mem _ hz)
    refine ⟨_, .cons ha h1 hn, ?_⟩
    have hpc : pCost q r c ≤ 3 := by unfold pCost; split <;> split <;> omega
    simp only [List.length_cons]
    have : ((qs.length + 1 : Nat) : Int) * (g.e + 5) = qs.length * (g.e + 5) + (g.e + 5) := by
      rw [Int.natCast_add, Int.add_mul]; simp
    omega
structure Cost (g : Gm) (n : Nat) : Prop where
  ex : ∃ qs, qs.Perm g.ps ∧ Pr g 0 false false qs n
  le : ∀ qs k, qs.Perm g.ps → Pr g 0 false false qs k → n ≤ k
theorem Cost.uniq {g : Gm} {n k : Nat} (h : Cost g n) (h' : Cost g k) : n = k := by
  obtain ⟨qs, a, b⟩ := h.ex
  obtain ⟨qs', a', b'⟩ := h'.ex
  have := h.le qs' k a' b'
  have := h'.le qs n a b
  omega
theorem cost_best {g : Gm} (hg : g.ok) (hp : ∀ q ∈ g.ps, q.place + 2 ≤ g.e) {o : Option (List Ky)} (h : Best g o) : ∃ ks, o = some ks ∧ Cost g ks.length := by
  have hb := best_price hg h
  cases o with
  | none =>
    exfalso
    have he := hg.1
    obtain ⟨n, hn, _⟩ := pr_ex (g := g) (by omega) g.ps 0 false false ⟨by omega, by omega⟩ fun q hq => ⟨(hg.2.2.2.2.b q hq).1, hp q hq⟩
    exact hb g.ps n (.refl _) hn
  | some ks => exact ⟨ks, rfl, hb.1, hb.2⟩
theorem cost_ex {g : Gm} (hg : g.ok) (hp : ∀ q ∈ g.ps, q.place + 2 ≤ g.e) : ∃ n, Cost g n := by
  obtain ⟨o, _, b⟩ := fewest_ex hg
  obtain ⟨ks, _, c⟩ := cost_best hg hp b
  exact ⟨_, c⟩
theorem pr_pos {g : Gm} {p : Int} {r c : Bool} {qs : List Pt} {n : Nat} (h : Pr g p r c qs n) : qs.length ≤ n := by
  induction h with
  | nil => exact Nat.le_refl _
  | cons _ _ _ ih => simp only [List.length_cons]; unfold pCost; omega
theorem cost_zero {g : Gm} {n : Nat} (h : Cost g n) : n = 0 ↔ g.ps = [] := by
  obtain ⟨qs, a, b⟩ := h.ex
  constructor
  · intro e
    have := pr_pos b
    have : qs = [] := List.eq_nil_of_length_eq_zero (by omega)
    subst this
    exact a.symm.eq_nil
  · intro e
    have := h.le [] 0 (by rw [e]) .nil
    omega
theorem mv_tabs {e : Int} {dead : List Nat} {ts : List Int} {ps ps' : List Pt} {n : Nat} {p q : Int} (h : Mv ⟨e, dead, [], ps⟩ n p q) : Mv ⟨e, dead, ts, ps'⟩ n p q := by
  induction h with
  | z => exact .z
  | s hm _ ih =>
    refine .s ?_ ih
    obtain ⟨h1, h2⟩ := List.mem_filter.mp hm
    refine List.mem_filter.mpr ⟨?_, h2⟩
    simp only [List.filter_nil, List.take_nil, List.append_nil] at h1
    exact List.mem_append.mpr (.inl h1)
theorem pr_tabs {e : Int} {dead : List Nat} {ts : List Int} {ps ps' : List Pt} {p : Int} {r c : Bool} {qs : List Pt} {n : Nat} (h : Pr ⟨e, dead, [], ps⟩ p r c qs n) : Pr ⟨e, dead, ts, ps'⟩ p r c qs n := by
  induction h with
  | nil => exact .nil
  | cons h1 h2 _ ih => exact .cons (mv_tabs h1) h2 ih
theorem cost_tabs {e : Int} {dead : List Nat} {ts : List Int} {ps : List Pt} {n k : Nat} (h : Cost ⟨e, dead, [], ps⟩ n) (h' : Cost ⟨e, dead, ts, ps⟩ k) : k ≤ n := by
  obtain ⟨qs, a, b⟩ := h.ex
  exact h'.le qs n a (pr_tabs b)
theorem mv_ps {e : Int} {dead : List Nat} {ts : List Int} {ps ps' : List Pt} {n : Nat} {p q : Int} (h : Mv ⟨e, dead, ts, ps⟩ n p q) : Mv ⟨e, dead, ts, ps'⟩ n p q := by
  induction h with
  | z => exact .z
  | s hm _ ih => exact .s hm ih
section
variable {e : Int} {dead : List Nat} {ts : List Int} {ps ps' : List Pt} (φ : Pt → Pt) (fr fc : Bool → Bool) (hr : ∀ a b, fr a = fr b → a = b) (hc : ∀ a b, fc a = fc b → a = b)
structure Ren (dead : List Nat) (φ : Pt → Pt) (fr fc : Bool → Bool) (q : Pt) : Prop where
  pl : (φ q).place = q.place
  de : (φ q).sign ∈ dead ↔ q.sign ∈ dead
  rd : (φ q).red = fr q.red
  cp : ∀ c, capsOf (φ q).sign (fc c) = fc (capsOf q.sign c)
include hr hc
theorem ren_cost {q : Pt} (h : Ren dead φ fr fc q) (r c : Bool) : pCost (φ q) (fr r) (fc c) = pCost q r c := by
  unfold pCost
  rw [h.rd, h.cp]
  have e1 : (fr r = fr q.red) ↔ r = q.red := ⟨hr _ _, fun e => by rw [e]⟩
  have e2 : (fc (capsOf q.sign c) = fc c) ↔ capsOf q.sign c = c := ⟨hc _ _, fun e => by rw [e]⟩
  simp only [e1, e2]
theorem pr_ren : ∀ {qs : List Pt} {p : Int} {r c : Bool} {n : Nat}, (∀ q ∈ qs, Ren dead φ fr fc q) → (Pr ⟨e, dead, ts, ps⟩ p r c qs n ↔ Pr ⟨e, dead, ts, ps'⟩ p (fr r) (fc c) (qs.map φ) n)
  | [], p, r, c, n, _ => by constructor <;> intro h <;> cases h <;> exact .nil
  | q :: qs, p, r, c, n, hq => by
    have h0 := hq q List.mem_cons_self
    have ih := fun {p r c n} => pr_ren (qs := qs) (p := p) (r := r) (c := c) (n := n) fun z hz => hq z (List.mem_cons_of_mem _ hz)
    have en : ∀ ps, pNext ⟨e, dead, ts, ps⟩ (φ q) = pNext ⟨e, dead, ts, ps'⟩ q := fun ps => by
      unfold pNext
      simp only [h0.pl, h0.de]
    have en2 : ∀ ps ps', pNext ⟨e, dead, ts, ps⟩ q = pNext ⟨e, dead, ts, ps'⟩ q := fun _ _ => rfl
    constructor
    · intro h
      cases h with
      | @cons _ _ _ _ _ a n h1 h2 h3 =>
        rw [List.map_cons, ← ren_cost φ fr fc hr hc h0 r c]
        refine .cons (by rw [h0.pl]; exact mv_ps h1) (by rw [h0.pl]; exact h2) ?_
        rw [en, h0.rd, h0.cp]
        exact ih.mp h3
    · intro h
      rw [List.map_cons] at h
      cases h with
      | @cons _ _ _ _ _ a n h1 h2 h3 =>
        rw [ren_cost φ fr fc hr hc h0 r c]
        rw [h0.pl] at h1 h2
        refine .cons (mv_ps h1) h2 ?_
        rw [en, h0.rd, h0.cp] at h3
        exact ih.mpr h3
end
section
variable {e : Int} {dead : List Nat} {ts : List Int} {ps ps' : List Pt}
theorem cost_ren {φ : Pt → Pt} (hq : ∀ q ∈ ps, Ren dead φ id id q) (hp : ps'.Perm (ps.map φ)) {n : Nat} (h : Cost ⟨e, dead, ts, ps⟩ n) : Cost ⟨e, dead, ts, ps'⟩ n := by
  have hinj : ∀ a b : Bool, id a = id b → a = b := fun _ _ z => z
  refine ⟨?_, fun qs k hk pk => ?_⟩
  · obtain ⟨qs, a, b⟩ := h.ex
    refine ⟨qs.map φ, (a.map φ).trans hp.symm, ?_⟩
    exact (pr_ren φ id id hinj hinj (ps' := ps') fun q hz => hq q (a.subset hz)).mp b
  · obtain ⟨ys, e1, e2⟩ := perm_map (hk.trans hp)
    subst e1
    exact h.le ys k e2 ((pr_ren φ id id hinj hinj (ps := ps) fun q hz => hq q (e2.subset hz)).mpr pk)
theorem cost_one {φ : Pt → Pt} {fr fc : Bool → Bool} (hr : ∀ a b, fr a = fr b → a = b) (hc : ∀ a b, fc a = fc b → a = b) (hq : ∀ q ∈ ps, Ren dead φ fr fc q) (hone : ∀ q ∈ ps, pCost (φ q) false false = pCost (φ q) (fr false) (fc false) + 1) (hcap : ∀ q ∈ ps, capsOf (φ q).sign false = capsOf (φ q).sign (fc false)) (hne : ps ≠ []) (hp : ps'.Perm (ps.map φ)) {n : Nat} (h : Cost ⟨e, dead, ts, ps⟩ n) : Cost ⟨e, dead, ts, ps'⟩ (n + 1) := by
  have key : ∀ (q : Pt) (qs : List Pt) (k : Nat), q ∈ ps → (Pr ⟨e, dead, ts, ps'⟩ 0 (fr false) (fc false) (φ q :: qs) k ↔ Pr ⟨e, dead, ts, ps'⟩ 0 false false (φ q :: qs) (k + 1)) := fun q qs k hm => by
    constructor
    · intro h
      cases h with
      | @cons _ _ _ _ _ a n h1 h2 h3 =>
        have : a + pCost (φ q) (fr false) (fc false) + n + 1 = a + pCost (φ q) false false + n := by rw [hone q hm]; omega
        rw [this]
        exact .cons h1 h2 (by rw [hcap q hm]; exact h3)
    · intro h
      generalize hz : k + 1 = z at h
      cases h with
      | @cons _ _ _ _ _ a n h1 h2 h3 =>
        have : k = a + pCost (φ q) (fr false) (fc false) + n := by rw [hone q hm] at hz; omega
        rw [this]
        exact .cons h1 h2 (by rw [← hcap q hm]; exact h3)
  refine ⟨?_, fun qs k hk pk => ?_⟩
  · obtain ⟨qs, a, b⟩ := h.ex
    refine ⟨qs.map φ, (a.map φ).trans hp.symm, ?_⟩
    have := (pr_ren φ fr fc hr hc (ps' := ps') fun q hz => hq q (a.subset hz)).mp b
    cases qs with
    | nil => exact absurd a.symm.eq_nil hne
    | cons q qs => exact (key q _ n (a.subset List.mem_cons_self)).mp this
  · obtain ⟨ys, e1, e2⟩ := perm_map (hk.trans hp)
    subst e1
    cases ys with
    | nil => exact absurd e2.symm.eq_nil hne
    | cons q ys =>
      have hpos := pr_pos pk
      obtain ⟨k, rfl⟩ : ∃ k', k = k' + 1 := ⟨k - 1, by simp at hpos; omega⟩
      have p1 := (key q _ k (e2.subset List.mem_cons_self)).mpr pk
      have p2 := (pr_ren φ fr fc hr hc (ps := ps) fun q hz => hq q (e2.subset hz)).mpr p1
      have := h.le _ k e2 p2
      omega
end
end DL
end
section
set_option maxHeartbeats 0
namespace DL
open PySem
theorem ptLt_trans {a b c : Pt} (h1 : ptLt a b = true) (h2 : ptLt b c = true) : ptLt a c = true := by
  obtain ⟨p, s, r⟩ := a
  obtain ⟨p', s', r'⟩ := b
  obtain ⟨p2, s2, r2⟩ := c
  simp only [ptLt, Bool.or_eq_true, Bool.and_eq_true, decide_eq_true_eq, Bool.not_eq_true'] at h1 h2 ⊢
  rcases h1 with h1 | ⟨e1, h1⟩
  · rcases h2 with h2 | ⟨e2, h2⟩
    · left; omega
    · left; omega
  · rcases h2 with h2 | ⟨e2, h2⟩
    · left; omega
    · right
      refine ⟨by omega, ?_⟩
      rcases h1 with h1 | ⟨e3, h1⟩
      · rcases h2 with h2 | ⟨e4, h2⟩
        · left; omega
        · left; omega
      · rcases h2 with h2 | ⟨e4, h2⟩
        · left; omega
        · rw [h1.2] at h2; cases h2.1
theorem ptLt_irr (a : Pt) : ptLt a a = false := by simp [ptLt]
theorem rise_pair {α : Type} {lt : α → α → Bool} (ht : ∀ a b c, lt a b = true → lt b c = true → lt a c = true) : ∀ {l : List α}, rise lt l = true → l.Pairwise (fun a b => lt a b = true)
  | [], _ => .nil
  | [a], _ => by simp
  | a :: b :: r, h => by
    simp only [rise, Bool.and_eq_true] at h
    have ih := rise_pair ht h.2
    refine .cons (fun z hz => ?_) ih
    rcases List.mem_cons.mp hz with e | hz
    · subst e; exact h.1
    · cases ih with
      | cons h1 _ => exact ht a b z h.1 (h1 z hz)
theorem rise_pts {l : List Pt} (h : rise ptLt l = true) : l.Pairwise (fun a b => ptLt a b = true) := rise_pair (lt := ptLt) (fun _ _ _ a b => ptLt_trans a b) h
theorem nodup_pts {l : List Pt} (h : rise ptLt l = true) : l.Nodup := (rise_pts h).imp fun h e => by rw [e, ptLt_irr] at h; cases h
theorem rise_sub {l l' : List Pt} (h : rise ptLt l = true) (s : l'.Sublist l) : rise ptLt l' = true := rise_of ((rise_pts h).sublist s)
theorem GDr.sub {c : Int} {l l' : List Pt} (h : GDr c l) (s : l'.Sublist l) : GDr c l' := ⟨fun p hp => h.b p (s.subset hp), rise_sub h.r s⟩
theorem rise_map {f : Pt → Pt} {l : List Pt} (h : rise ptLt l = true) (hf : ∀ a ∈ l, ∀ b ∈ l, ptLt a b = true → ptLt (f a) (f b) = true) : rise ptLt (l.map f) = true := by
  refine rise_of (List.pairwise_map.mpr ?_)
  exact (rise_pts h).imp_of_mem fun {a b} ha hb h => hf a ha b hb h
theorem dead_not {dead : List Nat} (h : dead ∈ deads) {s : Nat} (hs : s ≠ 39 ∧ s ≠ 94 ∧ s ≠ 126) : s ∉ dead := fun hm => by
  rcases deads_mem h s hm with e | e | e
  · exact hs.1 e
  · exact hs.2.1 e
  · exact hs.2.2 e
def toRed (q : Pt) : Pt := { q with red := true }
def toGreat (q : Pt) : Pt := { q with sign := upC q.sign }
def nmC (s : Nat) : Nat := if s = 97 then 99 else if s = 98 then 100 else if s = 65 then 67 else if s = 66 then 68 else s
def toName (q : Pt) : Pt := { q with sign := nmC q.sign }
section
variable {e c : Int} {dead : List Nat} {ts : List Int} {ps : List Pt} {n : Nat}
theorem cost_red (hb : ∀ q ∈ ps, q.red = false) (hne : ps ≠ []) (h : Cost ⟨e, dead, ts, ps⟩ n) : Cost ⟨e, dead, ts, ps.map toRed⟩ (n + 1) := by
  refine cost_one (φ := toRed) (fr := not) (fc := id) (fun a b => by cases a <;> cases b <;> simp) (fun _ _ z => z) (fun q hq => ⟨rfl, Iff.rfl, by rw [hb q hq]; rfl, fun _ => rfl⟩) (fun q hq => ?_) (fun q hq => rfl) hne (.refl _) h
  unfold pCost toRed
  simp
  omega
theorem cost_great (hd : dead ∈ deads) (hb : ∀ q ∈ ps, 97 ≤ q.sign ∧ q.sign ≤ 122) (hne : ps ≠ []) (h : Cost ⟨e, dead, ts, ps⟩ n) : Cost ⟨e, dead, ts, ps.map toGreat⟩ (n + 1) := by
  have hg : ∀ q ∈ ps, isGreat (upC q.sign) = true ∧ isSmall q.sign = true ∧ isGreat q.sign = false := fun q hq => by
    obtain ⟨h1, h2⟩ := hb q hq
    refine ⟨?_, ?_, ?_⟩
    · unfold isGreat upC; rw [if_pos ⟨h1, h2⟩]; exact decide_eq_true (by omega)
    · unfold isSmall; exact decide_eq_true ⟨h1, h2⟩
    · unfold isGreat; exact decide_eq_false (by omega)
  refine cost_one (φ := toGreat) (fr := id) (fc := not) (fun _ _ z => z) (fun a b => by cases a <;> cases b <;> simp) (fun q hq => ⟨rfl, ?_, rfl, fun b => ?_⟩) (fun q hq => ?_) (fun q hq => ?_) hne (.refl _) h
  · obtain ⟨h1, h2⟩ := hb q hq
    have e1 : (toGreat q).sign = q.sign - 32 := by unfold toGreat upC; simp [h1, h2]
    rw [e1]
    exact ⟨fun z => absurd z (dead_not hd ⟨by omega, by omega, by omega⟩), fun z => absurd z (dead_not hd ⟨by omega, by omega, by omega⟩)⟩
  · obtain ⟨h1, h2, h3⟩ := hg q hq
    unfold toGreat capsOf
    simp [h1, h2, h3]
  · obtain ⟨h1, h2, h3⟩ := hg q hq
    unfold pCost toGreat capsOf
    simp [h1]
  · obtain ⟨h1, h2, h3⟩ := hg q hq
    unfold toGreat capsOf
    simp [h1]
theorem cost_name {ps' : List Pt} (hd : dead ∈ deads) (hs : ∀ q ∈ ps, q.sign ∈ gSigns) (hp : ps'.Perm (ps.map toName)) (h : Cost ⟨e, dead, ts, ps⟩ n) : Cost ⟨e, dead, ts, ps'⟩ n := by
  refine cost_ren (φ := toName) (fun q hq => ⟨rfl, ?_, rfl, fun b => ?_⟩) hp h
  · have hq' := hs q hq
    simp only [gSigns, List.mem_cons, List.not_mem_nil, or_false] at hq'
    show nmC q.sign ∈ dead ↔ q.sign ∈ dead
    have no : ∀ {s : Nat}, s ≠ 39 ∧ s ≠ 94 ∧ s ≠ 126 → s ∉ dead := dead_not hd
    rcases hq' with e | e | e | e | e | e | e | e | e <;> rw [e] <;> first | exact Iff.rfl | exact ⟨fun z => absurd z (no (by decide)), fun z => absurd z (no (by decide))⟩
  · have hq' := hs q hq
    simp only [gSigns, List.mem_cons, List.not_mem_nil, or_false] at hq'
    show capsOf (nmC q.sign) b = capsOf q.sign b
    rcases hq' with e | e | e | e | e | e | e | e | e <;> rw [e] <;> rfl
theorem nm_inj {a b : Pt} (ha : a.sign ∈ gSigns) (hb : b.sign ∈ gSigns) (h : toName a = toName b) : a = b := by
  obtain ⟨p, s, r⟩ := a
  obtain ⟨p', s', r'⟩ := b
  simp only [toName, Pt.mk.injEq] at h ha hb ⊢
  refine ⟨h.1, ?_, h.2.2⟩
  have h2 := h.2.1
  have : ∀ a ∈ gSigns, ∀ b ∈ gSigns, nmC a = nmC b → a = b := by decide
  exact this s ha s' hb h2
end
end DL
end
section
set_option maxHeartbeats 0
namespace DL
open PySem
def ph__law_many (A : Ad) : FW := fun ds m R _ => ∃ c dead dn ts ps, ds = [machD c dead dn, .tup (ts.map .int), .tup (ps.map ptD)] ∧ MOk c dead dn ∧ Gm.ok ⟨2 * c, dead, ts, ps⟩ ∧ (∀ q ∈ ps, q.place + 2 ≤ 2 * c) ∧ ∀ n : Nat, Cost ⟨2 * c, dead, ts, ps⟩ n → R (.int (n : Nat)) m
def ph_law (A : Ad) : FW := phL
end DL
end
section
set_option maxHeartbeats 0
namespace DL
open PySem
def psi__law_many (A : Ad) : WS := wSeq (wSet 3 (wCall 3 (ph_fewest A) (wCons (wVar 0) (wCons (wVar 1) (wCons (wVar 2) (wNil)))))) (wRet (wIf (wTest (wOp wIsN (wVar 3) (wC .non))) (wC .non) (wCallB wLen (wCons (wVar 3) (wNil)))))
def psi_law_t17 (A : Ad) : WS := wRet (wOp wEq (wCall 3 (ph__law_many A) (wCons (wVar 2) (wCons (wVar 5) (wCons (wVar 14) (wNil))))) (wVar 6))
def psi_law_t16 (A : Ad) : WS := wSeq (wSet 14 (wCallB wTuple (wCons (wCallB (wSortD false) (wCons (wLc false [16, 17, 19] (iSeq (wVar 4)) (gTp [16, 17, 19]) (wYes) (wTup (wCons (wVar 16) (wCons (wDGet2 (wVar 13) (wVar 17) (wVar 17)) (wCons (wVar 19) (wNil)))))) (wNil))) (wNil)))) (psi_law_t17 A)
def psi_law_t15 (A : Ad) : WS := wSeq (wSet 13 (wDisp [(wC (.str (PySem.Str.ofString "a")), wC (.str (PySem.Str.ofString "c"))), (wC (.str (PySem.Str.ofString "b")), wC (.str (PySem.Str.ofString "d"))), (wC (.str (PySem.Str.ofString "A")), wC (.str (PySem.Str.ofString "C"))), (wC (.str (PySem.Str.ofString "B")), wC (.str (PySem.Str.ofString "D")))])) (psi_law_t16 A)
def psi_law_t14 (A : Ad) : WS := wSeq (wIfS (wAnd (wTest (wCallB wAll (wCons (wLc false [15] (iSeq (wVar 4)) (gNm 15) (wYes) (wChain wLe wLe (wC (.str (PySem.Str.ofString "a"))) (wOp wIx (wVar 15) (wC (.int 1))) (wC (.str (PySem.Str.ofString "z"))))) (wNil)))) (wTest (wOp wNe (wVar 4) (wTup (wNil))))) (wSeq (wSet 12 (wCallB wTuple (wCons (wLc false [16, 17, 18] (iSeq (wVar 4)) (gTp [16, 17, 18]) (wYes) (wTup (wCons (wVar 16) (wCons (wMt "str" wUpper (wVar 17) wNil) (wCons (wVar 18) (wNil)))))) (wNil)))) (wIfS (wTest (wOp wNe (wCall 3 (ph__law_many A) (wCons (wVar 2) (wCons (wVar 5) (wCons (wVar 12) (wNil))))) (wOp (wAdd false) (wVar 6) (wC (.int 1))))) (wRet (wC (.bl false))) (wNext))) (wNext)) (psi_law_t15 A)
def psi_law_t13 (A : Ad) : WS := wSeq (wIfS (wAnd (wTest (wCallB wAll (wCons (wLc false [15] (iSeq (wVar 4)) (gNm 15) (wYes) (wOp wEq (wOp wIx (wVar 15) (wC (.int 2))) (wC (.str (PySem.Str.ofString "black"))))) (wNil)))) (wTest (wOp wNe (wVar 4) (wTup (wNil))))) (wSeq (wSet 11 (wCallB wTuple (wCons (wLc false [16, 17, 18] (iSeq (wVar 4)) (gTp [16, 17, 18]) (wYes) (wTup (wCons (wVar 16) (wCons (wVar 17) (wCons (wC (.str (PySem.Str.ofString "red"))) (wNil)))))) (wNil)))) (wIfS (wTest (wOp wNe (wCall 3 (ph__law_many A) (wCons (wVar 2) (wCons (wVar 5) (wCons (wVar 11) (wNil))))) (wOp (wAdd false) (wVar 6) (wC (.int 1))))) (wRet (wC (.bl false))) (wNext))) (wNext)) (psi_law_t14 A)
def psi_law_t12 (A : Ad) : WS := wSeq (wFor (iRange1 (wCallB wLen (wCons (wVar 4) (wNil)))) (gNm 9) (wSeq (wSet 10 (wCall 3 (ph__law_many A) (wCons (wVar 2) (wCons (wVar 5) (wCons (wOp (wAdd false) (wSl (wCut false) (wVar 4) (oNone) (oSome (wVar 9))) (wSl (wCut false) (wVar 4) (oSome (wOp (wAdd false) (wVar 9) (wC (.int 1)))) (oNone))) (wNil)))))) (wIfS (wOr (wTest (wOp wIsN (wVar 10) (wC .non))) (wAnd (wTest (wOp wGe (wVar 10) (wVar 6))) (wAnd (wTest (wOp wNotIn (wOp wIx (wOp wIx (wVar 4) (wVar 9)) (wC (.int 1))) (wOp wIx (wVar 2) (wC (.int 1))))) (wTest (wOp wEq (wCallB wLen (wCons (wVar 4) (wNil))) (wC (.int 1))))))) (wRet (wC (.bl false))) (wNext)))) (psi_law_t13 A)
def psi_law_t11 (A : Ad) : WS := wSeq (wIfS (wOr (wTest (wOp wGt (wVar 8) (wVar 7))) (wTest (wOp wGt (wVar 6) (wVar 7)))) (wRet (wC (.bl false))) (wNext)) (psi_law_t12 A)
def psi_law_t10 (A : Ad) : WS := wSeq (wIfS (wOr (wTest (wOp wIsN (wVar 6) (wC .non))) (wOr (wTest (wOp wIsN (wVar 7) (wC .non))) (wTest (wOp wIsN (wVar 8) (wC .non))))) (wRet (wOp wIsN (wVar 7) (wC .non))) (wNext)) (psi_law_t11 A)
def psi_law_t9 (A : Ad) : WS := wSeq (wSet 8 (wCall 3 (ph__law_many A) (wCons (wVar 2) (wCons (wTup (wCons (wCall 3 (ph__law_draw A) (wCons (wVar 0) (wCons (wVar 1) (wCons (wOp (wAdd false) (wVar 3) (wC (.int 1))) (wNil))))) (wNil))) (wCons (wVar 4) (wNil)))))) (psi_law_t10 A)
def psi_law_t8 (A : Ad) : WS := wSeq (wIfS (wOr (wTest (wOp wNe (wCall 3 (ph_fewest A) (wCons (wVar 2) (wCons (wVar 5) (wCons (wTup (wNil)) (wNil))))) (wTup (wNil)))) (wTest (wOp wNe (wOp wEq (wVar 6) (wC (.int 0))) (wOp wEq (wVar 4) (wTup (wNil)))))) (wRet (wC (.bl false))) (wNext)) (psi_law_t9 A)
def psi_law_t7 (A : Ad) : WS := wSeq (wSet 7 (wCall 3 (ph__law_many A) (wCons (wVar 2) (wCons (wTup (wNil)) (wCons (wVar 4) (wNil)))))) (psi_law_t8 A)
def psi_law_t6 (A : Ad) : WS := wSeq (wSet 6 (wCall 3 (ph__law_many A) (wCons (wVar 2) (wCons (wVar 5) (wCons (wVar 4) (wNil)))))) (psi_law_t7 A)
def psi_law_t5 (A : Ad) : WS := wSeq (wSet 5 (wCall 4 (ph__law_tabs A) (wCons (wVar 0) (wCons (wVar 1) (wCons (wVar 2) (wCons (wC (.int 3)) (wNil))))))) (psi_law_t6 A)
def psi_law_t4 (A : Ad) : WS := wSeq (wSet 4 (wCallB wTuple (wCons (wLc false [15] (iSeq (wCall 4 (ph__law_goal A) (wCons (wVar 0) (wCons (wVar 1) (wCons (wVar 2) (wCons (wC (.int 3)) (wNil))))))) (gNm 15) (wTest (wOp wLe (wOp wIx (wVar 15) (wC (.int 0))) (wOp wSub (wVar 3) (wC (.int 2))))) (wVar 15)) (wNil)))) (psi_law_t5 A)
def psi_law_t3 (A : Ad) : WS := wSeq (wSet 3 (wOp (wMul false) (wC (.int 2)) (wOp wIx (wVar 2) (wC (.int 0))))) (psi_law_t4 A)
def psi_law_t2 (A : Ad) : WS := wSeq (wSet 2 (wOp (wAdd false) (wTup (wCons (wCallB wMin2 (wCons (wC (.int 12)) (wCons (wOp wIx (wVar 2) (wC (.int 0))) (wNil)))) (wNil))) (wSl (wCut false) (wVar 2) (oSome (wC (.int 1))) (oNone)))) (psi_law_t3 A)
def psi_law_t1 (A : Ad) : WS := wSeq (wSet 2 (wCall 2 (ph__law_machine A) (wCons (wVar 0) (wCons (wVar 1) (wNil))))) (psi_law_t2 A)
def psi_law (A : Ad) : WS := wSeq (wSet 1 (wLst true (wNil))) (psi_law_t1 A)
end DL
end
section
set_option maxHeartbeats 0
namespace DL
open PySem
structure AdX (A : Ad) : Prop extends AdOk A
theorem dt__law_many {A : Ad} (hA : AdOk A) : ∀ ds m R x, ph__law_many A ds m R x → psi__law_many A (startD 4 ds) m (endD R x) := by
  rintro ds m R x ⟨c, dead, dn, ts, ps, rfl, hM, hg, hp, h⟩
  have e0 : startD 4 [machD c dead dn, .tup (ts.map .int), .tup (ps.map ptD)] = [some (machD c dead dn), some (.tup (ts.map .int)), some (.tup (ps.map ptD)), none] := rfl
  rw [e0]
  obtain ⟨o, hf, hb⟩ := fewest_ex hg
  obtain ⟨ks, rfl, hc⟩ := cost_best hg hp hb
  simp only [psi__law_many, s_seq, s_if, s_set, s_ret, s_retN, s_next, s_exp, s_asg, s_for, s_par, s_raise, e_test, e_not, e_and, e_or, e_andV, e_orV, e_notV, e_op, e_un, e_if, e_call, e_callB, e_cons, e_nil, e_tup, e_lst, e_nwF, e_c, e_var, e_sl, e_oSome, e_oNone, e_chain, e_lc, e_seqI, e_mt, e_frz, e_fgt, g_nm, g_tp, putAllS, putAll0, wipeS, wipe0, getS, get0, putS, put0, ok_some]
  refine ⟨rfl, _, _, _, rfl, inMach.good hM (inTabs.good hg.2.2.2.1 (inGoal.good hg.2.2.2.2 ⟨_, hf, ?_⟩))⟩
  refine ⟨rfl, ?_⟩
  have := h _ hc
  simpa [wLen, asQ, fewD] using this
theorem gdr_ok {c : Int} {dead : List Nat} {dn : Int} {ts : List Int} {ps : List Pt} (hM : MOk c dead dn) (ht : TbOk (2 * c) ts) (hg : GDr c ps) (hl : ps.length ≤ 5) : Gm.ok ⟨2 * c, dead, ts, ps⟩ := by
  refine ⟨by have := hM.lo; show 16 ≤ 2 * c; omega, by have := hM.hi; show 2 * c ≤ 80; omega, hM.de, ht, hl, fun p hp => ?_, hg.r⟩
  obtain ⟨h1, h2, h3⟩ := hg.b p hp
  have : ∀ s ∈ gSigns, s ∈ signsG.cps.toList := by decide +kernel
  exact ⟨h1, by show p.place ≤ 2 * c; omega, this _ h3⟩
theorem fil_true {α : Type} (xs : List α) : xs.filter (fun _ => true) = xs := List.filter_eq_self.mpr fun _ _ => rfl
def ch1 (c : Nat) : Str := ⟨#[c]⟩
def nmK : List (DKey × D) := [(.inr (PySem.Str.ofString "a"), .str (PySem.Str.ofString "c")), (.inr (PySem.Str.ofString "b"), .str (PySem.Str.ofString "d")), (.inr (PySem.Str.ofString "A"), .str (PySem.Str.ofString "C")), (.inr (PySem.Str.ofString "B"), .str (PySem.Str.ofString "D"))]
theorem nm_look {c : Nat} (h : c ∈ gSigns) : (lookK nmK (.inr ⟨#[c]⟩)).getD (ch c) = ch (nmC c) := by
  simp only [gSigns, List.mem_cons, List.not_mem_nil, or_false] at h
  rcases h with e | e | e | e | e | e | e | e | e <;> subst e <;> rfl
theorem min_mach {c : Int} {dead : List Nat} {dn : Int} (hM : MOk c dead dn) : MOk (if c < 12 then c else 12) dead dn := ⟨by have := hM.lo; split <;> omega, by split <;> omega, hM.de, hM.d2, hM.d4⟩
theorem dt_law {A : Ad} (hA : AdX A) : ∀ ds m R x, ph_law A ds m R x → psi_law A (startD 20 ds) m (endD R x) := by
  rintro ds m R x ⟨ns, rfl, hn, rfl, h⟩
  have L : LIM = 16777216 := rfl
  have e0 : startD 20 [D.scr ns] = [some (.scr ns), none, none, none, none, none, none, none, none, none, none, none, none, none, none, none, none, none, none, none] := rfl
  rw [e0]
  have mul2 : ∀ (i : Int) (m : Store) (K : KD), K (.int (2 * i)) m → wMul false (.int 2) (.int i) m K := fun i m K hK => ⟨.inl (by decide), hK⟩
  have subi : ∀ (i j : Int) (m : Store) (K : KD), wSub (.int i) (.int j) m K = K (.int (i - j)) m := fun _ _ _ _ => rfl
  have addi : ∀ (i j : Int) (m : Store) (K : KD), wAdd false (.int i) (.int j) m K = K (.int (i + j)) m := fun _ _ _ _ => rfl
  simp only [psi_law, e_nwT, s_seq, s_if, s_set, s_ret, s_retN, s_next, s_exp, s_asg, s_for, s_par, s_raise, e_test, e_not, e_and, e_or, e_andV, e_orV, e_notV, e_op, e_un, e_if, e_call, e_callB, e_cons, e_nil, e_tup, e_lst, e_nwF, e_c, e_var, e_sl, e_oSome, e_oNone, e_chain, e_lc, e_seqI, e_mt, e_frz, e_fgt, g_nm, g_tp, putAllS, putAll0, wipeS, wipe0, getS, get0, putS, put0, ok_some]
  refine ⟨by decide, fun t _ => ?_⟩
  simp only [psi_law_t1, s_seq, s_if, s_set, s_ret, s_retN, s_next, s_exp, s_asg, s_for, s_par, s_raise, e_test, e_not, e_and, e_or, e_andV, e_orV, e_notV, e_op, e_un, e_if, e_call, e_callB, e_cons, e_nil, e_tup, e_lst, e_nwF, e_c, e_var, e_sl, e_oSome, e_oNone, e_chain, e_lc, e_seqI, e_mt, e_frz, e_fgt, g_nm, g_tp, putAllS, putAll0, wipeS, wipe0, getS, get0, putS, put0, ok_some]
  refine ⟨rfl, ns, t, [], rfl, sup_same, by show 0 + 5 < LIM; decide, fun c0 dead dn us1 hM0 hu1 => ?_⟩
  rw [sup_sup]
  simp only [List.length_nil] at hu1
  simp only [psi_law_t2, mach0, s_seq, s_if, s_set, s_ret, s_retN, s_next, s_exp, s_asg, s_for, s_par, s_raise, e_test, e_not, e_and, e_or, e_andV, e_orV, e_notV, e_op, e_un, e_if, e_call, e_callB, e_cons, e_nil, e_tup, e_lst, e_nwF, e_c, e_var, e_sl, e_oSome, e_oNone, e_chain, e_lc, e_seqI, e_mt, e_frz, e_fgt, g_nm, g_tp, putAllS, putAll0, wipeS, wipe0, getS, get0, putS, put0, ok_some]
  have hmin : ∀ (m : Store) (K : KD), K (.int (if c0 < 12 then c0 else 12)) m → wMin2 [.int 12, .int c0] m K := fun m K hK => hK
  refine hmin _ _ ?_
  have hM := min_mach hM0
  generalize (if c0 < 12 then c0 else 12) = c at hM ⊢
  refine ⟨by show 1 ≤ LIM; decide, ?_⟩
  have hcut : ∀ (m : Store) (K : KD), wCut false (machD c0 dead dn) (some 1) none m K = K (.tup [.tup (dead.map ch), .int dn]) m := fun _ _ => rfl
  rw [hcut]
  refine ⟨by show 1 + 2 ≤ LIM; decide, ?_⟩
  rw [show D.tup ([D.int c] ++ [.tup (dead.map ch), .int dn]) = machD c dead dn from rfl]
  simp only [psi_law_t3, mach0, s_seq, s_if, s_set, s_ret, s_retN, s_next, s_exp, s_asg, s_for, s_par, s_raise, e_test, e_not, e_and, e_or, e_andV, e_orV, e_notV, e_op, e_un, e_if, e_call, e_callB, e_cons, e_nil, e_tup, e_lst, e_nwF, e_c, e_var, e_sl, e_oSome, e_oNone, e_chain, e_lc, e_seqI, e_mt, e_frz, e_fgt, g_nm, g_tp, putAllS, putAll0, wipeS, wipe0, getS, get0, putS, put0, ok_some]
  refine mul2 _ _ _ ?_
  have hc8 := hM.lo
  simp only [psi_law_t4, s_seq, s_if, s_set, s_ret, s_retN, s_next, s_exp, s_asg, s_for, s_par, s_raise, e_test, e_not, e_and, e_or, e_andV, e_orV, e_notV, e_op, e_un, e_if, e_call, e_callB, e_cons, e_nil, e_tup, e_lst, e_nwF, e_c, e_var, e_sl, e_oSome, e_oNone, e_chain, e_lc, e_seqI, e_mt, e_frz, e_fgt, g_nm, g_tp, putAllS, putAll0, wipeS, wipe0, getS, get0, putS, put0, ok_some]
  refine ⟨rfl, ns, t, c, dead, dn, 3, us1, rfl, hc8, by decide, by decide, sup_same, by omega, fun ps us2 hg hl hu2 => ?_⟩
  rw [sup_sup]
  simp only [asI]
  refine lc_filter ptD (fun p => decide (p.place ≤ 2 * c - 2)) trivial (fun _ => rfl) ps [] _ (by simp only [List.length_nil]; omega) (fun p hp K2 h2 => h2) ?_
  have hfil : ps.filter (fun p => decide (p.place ≤ 2 * c - 2)) = ps := List.filter_eq_self.mpr fun p hp => decide_eq_true (hg.b p hp).2.1
  rw [hfil, List.nil_append]
  simp only [wTuple, asQ, asL, ok_some]
  simp only [psi_law_t5, s_seq, s_if, s_set, s_ret, s_retN, s_next, s_exp, s_asg, s_for, s_par, s_raise, e_test, e_not, e_and, e_or, e_andV, e_orV, e_notV, e_op, e_un, e_if, e_call, e_callB, e_cons, e_nil, e_tup, e_lst, e_nwF, e_c, e_var, e_sl, e_oSome, e_oNone, e_chain, e_lc, e_seqI, e_mt, e_frz, e_fgt, g_nm, g_tp, putAllS, putAll0, wipeS, wipe0, getS, get0, putS, put0, ok_some]
  refine ⟨rfl, ns, t, c, dead, dn, 3, us2, rfl, hc8, by decide, by decide, sup_same, by omega, fun ts us3 ht htl hu3 => ?_⟩
  rw [sup_sup]
  have hgo := gdr_ok hM ht hg (by omega)
  have hpl : ∀ q ∈ ps, q.place + 2 ≤ 2 * c := fun q hq => by have := (hg.b q hq).2.1; omega
  obtain ⟨many, hmany⟩ := cost_ex hgo hpl
  have ht0 : TbOk (2 * c) [] := ⟨by decide, by simp, rfl⟩
  have hgo0 := gdr_ok hM ht0 hg (by omega)
  obtain ⟨none', hnone⟩ := cost_ex hgo0 hpl
  have call : ∀ {ts' : List Int} {ps' : List Pt} {n : Nat} {m : Store} {K : KD} {x : XD}, Gm.ok ⟨2 * c, dead, ts', ps'⟩ → (∀ q ∈ ps', q.place + 2 ≤ 2 * c) → Cost ⟨2 * c, dead, ts', ps'⟩ n → K (.int (n : Nat)) m → ph__law_many A [machD c dead dn, .tup (ts'.map .int), .tup (ps'.map ptD)] m K x := fun {ts' ps' n m K x} a b hc hK => ⟨c, dead, dn, ts', ps', rfl, hM, a, b, fun k hk => by rw [hk.uniq hc]; exact hK⟩
  simp only [psi_law_t6, s_seq, s_if, s_set, s_ret, s_retN, s_next, s_exp, s_asg, s_for, s_par, s_raise, e_test, e_not, e_and, e_or, e_andV, e_orV, e_notV, e_op, e_un, e_if, e_call, e_callB, e_cons, e_nil, e_tup, e_lst, e_nwF, e_c, e_var, e_sl, e_oSome, e_oNone, e_chain, e_lc, e_seqI, e_mt, e_frz, e_fgt, g_nm, g_tp, putAllS, putAll0, wipeS, wipe0, getS, get0, putS, put0, ok_some]
  refine ⟨rfl, call hgo hpl hmany ?_⟩
  simp only [psi_law_t7, s_seq, s_if, s_set, s_ret, s_retN, s_next, s_exp, s_asg, s_for, s_par, s_raise, e_test, e_not, e_and, e_or, e_andV, e_orV, e_notV, e_op, e_un, e_if, e_call, e_callB, e_cons, e_nil, e_tup, e_lst, e_nwF, e_c, e_var, e_sl, e_oSome, e_oNone, e_chain, e_lc, e_seqI, e_mt, e_frz, e_fgt, g_nm, g_tp, putAllS, putAll0, wipeS, wipe0, getS, get0, putS, put0, ok_some]
  refine ⟨by decide, rfl, call (ts' := []) hgo0 hpl hnone ?_⟩
  have eqt : ∀ (m : Store) (K : KD), K (.bl (decide (ps = []))) m → wEq (.tup (ps.map ptD)) (.tup []) m K := fun m K hK => by
    refine ⟨?_, rfl, ?_⟩
    · simp only [rv, dOk]
      exact doks_all fun d hd => by
        obtain ⟨p, hp, rfl⟩ := List.mem_map.mp hd
        have : ∀ c ∈ gSigns, c < 128 := by decide
        exact pt_dok (this _ (hg.b p hp).2.2)
    · have e : eqD (rv m (.tup (ps.map ptD))) (rv m (.tup [])) = decide (ps = []) := by
        simp only [rv]
        cases ps <;> simp [eqD, eqDs]
      rw [e]; exact hK
  have eqb : ∀ (a b : Bool) (m : Store) (K : KD), K (.bl (decide (a = b))) m → wEq (.bl a) (.bl b) m K := fun a b m K hK => by
    refine ⟨rfl, rfl, ?_⟩
    have e : eqD (rv m (.bl a)) (rv m (.bl b)) = decide (a = b) := by simp only [rv]; cases a <;> cases b <;> rfl
    rw [e]; exact hK
  have hg0 : GDr c [] := ⟨by simp, rfl⟩
  have hgoE := gdr_ok hM ht hg0 (by decide)
  obtain ⟨oE, hfE, hbE⟩ := fewest_ex hgoE
  obtain ⟨ksE, rfl, hcE⟩ := cost_best hgoE (by simp) hbE
  have hkE : ksE = [] := List.eq_nil_of_length_eq_zero ((cost_zero hcE).mpr rfl)
  subst hkE
  simp only [psi_law_t8, s_seq, s_if, s_set, s_ret, s_retN, s_next, s_exp, s_asg, s_for, s_par, s_raise, e_test, e_not, e_and, e_or, e_andV, e_orV, e_notV, e_op, e_un, e_if, e_call, e_callB, e_cons, e_nil, e_tup, e_lst, e_nwF, e_c, e_var, e_sl, e_oSome, e_oNone, e_chain, e_lc, e_seqI, e_mt, e_frz, e_fgt, g_nm, g_tp, putAllS, putAll0, wipeS, wipe0, getS, get0, putS, put0, ok_some]
  refine ⟨by decide, rfl, _, _, _, rfl, inMach.good hM (inTabs.good ht (inGoal.good (ps := []) hgoE.2.2.2.2 ⟨_, hfE, ?_⟩))⟩
  refine ⟨by decide, rfl, rfl, ?_⟩
  have en : ∀ (m : Store), eqD (rv m (fewD (some []))) (rv m (.tup [])) = true := fun _ => rfl
  rw [en]
  simp only [Bool.not_true, Bool.false_eq_true, if_false]
  have ei : ∀ (i j : Int) (m : Store) (K : KD), wEq (.int i) (.int j) m K = K (.bl (decide (i = j))) m := fun _ _ _ _ => rfl
  rw [ei]
  refine ⟨by decide, eqt _ _ ?_⟩
  refine eqb _ _ _ _ ?_
  have hz : decide (((many : Nat) : Int) = 0) = decide (ps = []) := by
    refine decide_eq_decide.mpr ?_
    have : many = 0 ↔ ps = [] := cost_zero hmany
    rw [← this]; omega
  rw [hz]
  simp only [decide_true, Bool.not_true, Bool.false_eq_true, if_false]
  simp only [psi_law_t9, addi, s_seq, s_if, s_set, s_ret, s_retN, s_next, s_exp, s_asg, s_for, s_par, s_raise, e_test, e_not, e_and, e_or, e_andV, e_orV, e_notV, e_op, e_un, e_if, e_call, e_callB, e_cons, e_nil, e_tup, e_lst, e_nwF, e_c, e_var, e_sl, e_oSome, e_oNone, e_chain, e_lc, e_seqI, e_mt, e_frz, e_fgt, g_nm, g_tp, putAllS, putAll0, wipeS, wipe0, getS, get0, putS, put0, ok_some]
  refine ⟨rfl, ns, t, 2 * c + 1, us3, rfl, by omega, sup_same, by omega, fun v us4 v0 v1 hu4 => ?_⟩
  rw [sup_sup]
  have ht1 : TbOk (2 * c) [v] := ⟨by simp, fun t ht => by simp at ht; subst ht; omega, rfl⟩
  have hgo1 := gdr_ok hM ht1 hg (by omega)
  obtain ⟨later, hlater⟩ := cost_ex hgo1 hpl
  refine ⟨by show 1 ≤ LIM; decide, rfl, call (ts' := [v]) hgo1 hpl hlater ?_⟩
  have isn : ∀ (i : Int) (m : Store) (K : KD), K (.bl false) m → wIsN (.int i) .non m K := fun i m K hK => ⟨rfl, hK⟩
  simp only [psi_law_t10, s_seq, s_if, s_set, s_ret, s_retN, s_next, s_exp, s_asg, s_for, s_par, s_raise, e_test, e_not, e_and, e_or, e_andV, e_orV, e_notV, e_op, e_un, e_if, e_call, e_callB, e_cons, e_nil, e_tup, e_lst, e_nwF, e_c, e_var, e_sl, e_oSome, e_oNone, e_chain, e_lc, e_seqI, e_mt, e_frz, e_fgt, g_nm, g_tp, putAllS, putAll0, wipeS, wipe0, getS, get0, putS, put0, ok_some]
  refine isn _ _ _ ?_
  simp only [Bool.false_eq_true, if_false]
  refine isn _ _ _ ?_
  simp only [Bool.false_eq_true, if_false]
  refine isn _ _ _ ?_
  simp only [Bool.false_eq_true, if_false]
  have gti : ∀ (i j : Int) (m : Store) (K : KD), wGt (.int i) (.int j) m K = K (.bl (decide (j < i))) m := fun _ _ _ _ => rfl
  have hlt1 : decide (((none' : Nat) : Int) < ((later : Nat) : Int)) = false := decide_eq_false (by have := cost_tabs hnone hlater; omega)
  have hlt2 : decide (((none' : Nat) : Int) < ((many : Nat) : Int)) = false := decide_eq_false (by have := cost_tabs hnone hmany; omega)
  simp only [psi_law_t11, gti, hlt1, hlt2, s_seq, s_if, s_set, s_ret, s_retN, s_next, s_exp, s_asg, s_for, s_par, s_raise, e_test, e_not, e_and, e_or, e_andV, e_orV, e_notV, e_op, e_un, e_if, e_call, e_callB, e_cons, e_nil, e_tup, e_lst, e_nwF, e_c, e_var, e_sl, e_oSome, e_oNone, e_chain, e_lc, e_seqI, e_mt, e_frz, e_fgt, g_nm, g_tp, putAllS, putAll0, wipeS, wipe0, getS, get0, putS, put0, ok_some]
  simp only [Bool.false_eq_true, if_false]
  have hlen3 : ps.length ≤ 3 := by omega
  simp only [psi_law_t12, iRange1, s_seq, s_if, s_set, s_ret, s_retN, s_next, s_exp, s_asg, s_for, s_par, s_raise, e_test, e_not, e_and, e_or, e_andV, e_orV, e_notV, e_op, e_un, e_if, e_call, e_callB, e_cons, e_nil, e_tup, e_lst, e_nwF, e_c, e_var, e_sl, e_oSome, e_oNone, e_chain, e_lc, e_seqI, e_mt, e_frz, e_fgt, g_nm, g_tp, putAllS, putAll0, wipeS, wipe0, getS, get0, putS, put0, ok_some]
  simp only [wLen, asQ, asL, ok_some, List.length_map]
  refine ⟨by omega, by omega, ?_⟩
  refine for_inv (fun ds r m' => (∀ d ∈ ds, ∃ i : Nat, d = .int (i : Nat) ∧ i < ps.length) ∧ m' = sup (fun _ => none) t (.lst us4) ∧ ∃ o9 o10, r = [some (.scr ns), some (.ref t), some (machD c dead dn), some (.int (2 * c)), some (.tup (ps.map ptD)), some (.tup (ts.map .int)), some (.int (many : Nat)), some (.int (none' : Nat)), some (.int (later : Nat)), o9, o10, none, none, none, none, none, none, none, none, none]) _ _ _ ⟨fun d hd => ?_, rfl, none, none, rfl⟩ ?_ ?_
  · simp only [rangeD, List.mem_map, List.mem_range] at hd
    obtain ⟨k, hk, rfl⟩ := hd
    exact ⟨k, by simp, by omega⟩
  · rintro d ds r m' ⟨hd, rfl, o9, o10, rfl⟩ P hP
    refine ⟨trivial, ?_⟩
    obtain ⟨i, rfl, hi⟩ := hd d List.mem_cons_self
    have cuta : ∀ (m : Store) (K : KD), wCut false (.tup (ps.map ptD)) none (some (i : Nat)) m K = K (.tup ((ps.take i).map ptD)) m := fun m K => by
      show K (.tup (cutL _ _ _)) m = _
      rw [cut_take, List.map_take]
    have cutb : ∀ (m : Store) (K : KD), wCut false (.tup (ps.map ptD)) (some ((i : Int) + 1)) none m K = K (.tup ((ps.drop (i + 1)).map ptD)) m := fun m K => by
      show K (.tup (cutL _ _ _)) m = _
      rw [show ((i : Int) + 1) = ((i + 1 : Nat) : Int) by omega, cut_drop _ (by simp; omega), List.map_drop]
    simp only [addi, cuta, cutb, s_seq, s_if, s_set, s_ret, s_retN, s_next, s_exp, s_asg, s_for, s_par, s_raise, e_test, e_not, e_and, e_or, e_andV, e_orV, e_notV, e_op, e_un, e_if, e_call, e_callB, e_cons, e_nil, e_tup, e_lst, e_nwF, e_c, e_var, e_sl, e_oSome, e_oNone, e_chain, e_lc, e_seqI, e_mt, e_frz, e_fgt, g_nm, g_tp, putAllS, putAll0, wipeS, wipe0, getS, get0, putS, put0, ok_some]
    refine ⟨by simp; omega, rfl, ?_⟩
    have hsub : (ps.take i ++ ps.drop (i + 1)).Sublist ps := by
      rw [← List.eraseIdx_eq_take_drop_succ]; exact List.eraseIdx_sublist ..
    have hg2 := hg.sub hsub
    have hlen2 : (ps.take i ++ ps.drop (i + 1)).length + 1 = ps.length := by simp; omega
    have hgo2 := gdr_ok hM ht hg2 (by omega)
    have hpl2 : ∀ q ∈ ps.take i ++ ps.drop (i + 1), q.place + 2 ≤ 2 * c := fun q hq => hpl q (hsub.subset hq)
    obtain ⟨less, hless⟩ := cost_ex hgo2 hpl2
    rw [← List.map_append]
    refine call hgo2 hpl2 hless ?_
    refine isn _ _ _ ?_
    simp only [Bool.false_eq_true, if_false]
    have fin : P [some (.scr ns), some (.ref t), some (machD c dead dn), some (.int (2 * c)), some (.tup (ps.map ptD)), some (.tup (ts.map .int)), some (.int (many : Nat)), some (.int (none' : Nat)), some (.int (later : Nat)), some (.int (i : Nat)), some (.int (less : Nat)), none, none, none, none, none, none, none, none, none] (sup (fun _ => none) t (.lst us4)) := hP _ _ ⟨fun d hd' => hd d (List.mem_cons_of_mem _ hd'), rfl, _, _, rfl⟩
    have gei : ∀ (i j : Int) (m : Store) (K : KD), wGe (.int i) (.int j) m K = K (.bl (decide (j ≤ i))) m := fun _ _ _ _ => rfl
    rw [gei]
    cases hge : decide (((many : Nat) : Int) ≤ ((less : Nat) : Int)) with
    | false => exact fin
    | true =>
      simp only [if_true]
      have ixi : ∀ (m : Store) (K : KD), K (ptD ps[i]) m → wIx (.tup (ps.map ptD)) (.int (i : Nat)) m K := fun m K hK => by
        simp only [wIx, asQ, ok_some]
        rw [atL_nat, List.getElem?_map, List.getElem?_eq_getElem hi]
        exact hK
      refine ixi _ _ ?_
      have ix1 : ∀ (p : Pt) (m : Store) (K : KD), wIx (ptD p) (.int 1) m K = K (ch p.sign) m := fun _ _ _ => rfl
      rw [ix1, mach1]
      refine in_dead hA.toAdOk (b := false) ?_
      cases hnd : decide (ps[i].sign ∉ dead) with
      | false => exact fin
      | true =>
        simp only [if_true, wLen, asQ, asL, ok_some, List.length_map, ei]
        cases h1 : decide (((ps.length : Nat) : Int) = 1) with
        | false => exact fin
        | true =>
          exfalso
          have h1' : ps.length = 1 := by have := of_decide_eq_true h1; omega
          have h2' : ps.take i ++ ps.drop (i + 1) = [] := List.eq_nil_of_length_eq_zero (by omega)
          have h3 : less = 0 := (cost_zero hless).mpr h2'
          have h4 := of_decide_eq_true hge
          have h5 : many = 0 := by omega
          have h6 : ps = [] := (cost_zero hmany).mp h5
          rw [h6] at h1'; cases h1'
  · rintro r m' ⟨_, rfl, o9, o10, rfl⟩
    refine ⟨trivial, ?_⟩
    have net : ∀ (m : Store) (K : KD), K (.bl (decide (ps ≠ []))) m → wNe (.tup (ps.map ptD)) (.tup []) m K := fun m K hK => eqt m _ (by
      show K (.bl (!decide (ps = []))) m
      simpa using hK)
    have nei : ∀ (i j : Int) (m : Store) (K : KD), wNe (.int i) (.int j) m K = K (.bl (!decide (i = j))) m := fun _ _ _ _ => rfl
    have hsg : ∀ p ∈ ps, p.sign ∈ gSigns := fun p hp => (hg.b p hp).2.2
    have t14 : ∀ o9 o10 o11, psi_law_t14 A [some (.scr ns), some (.ref t), some (machD c dead dn), some (.int (2 * c)), some (.tup (ps.map ptD)), some (.tup (ts.map .int)), some (.int (many : Nat)), some (.int (none' : Nat)), some (.int (later : Nat)), o9, o10, o11, none, none, none, none, none, none, none, none] (sup (fun _ => none) t (.lst us4)) (endD R x) := fun o9 o10 o11 => by
      have t15 : ∀ o12, psi_law_t15 A [some (.scr ns), some (.ref t), some (machD c dead dn), some (.int (2 * c)), some (.tup (ps.map ptD)), some (.tup (ts.map .int)), some (.int (many : Nat)), some (.int (none' : Nat)), some (.int (later : Nat)), o9, o10, o11, o12, none, none, none, none, none, none, none] (sup (fun _ => none) t (.lst us4)) (endD R x) := fun o12 => by
        simp only [psi_law_t15, e_disp, e_pairs, e_pairs0, s_seq, s_if, s_set, s_ret, s_retN, s_next, s_exp, s_asg, s_for, s_par, s_raise, e_test, e_not, e_and, e_or, e_andV, e_orV, e_notV, e_op, e_un, e_if, e_call, e_callB, e_cons, e_nil, e_tup, e_lst, e_nwF, e_c, e_var, e_sl, e_oSome, e_oNone, e_chain, e_lc, e_seqI, e_mt, e_frz, e_fgt, g_nm, g_tp, putAllS, putAll0, wipeS, wipe0, getS, get0, putS, put0, ok_some]
        refine ⟨by show 4 ≤ 15; decide, ok_iff.mpr ⟨nmK, rfl, fun a na => ?_⟩⟩
        have emg : mergeD [] nmK = nmK := rfl
        rw [emg]
        simp only [psi_law_t16, s_seq, s_if, s_set, s_ret, s_retN, s_next, s_exp, s_asg, s_for, s_par, s_raise, e_test, e_not, e_and, e_or, e_andV, e_orV, e_notV, e_op, e_un, e_if, e_call, e_callB, e_cons, e_nil, e_tup, e_lst, e_nwF, e_c, e_var, e_sl, e_oSome, e_oNone, e_chain, e_lc, e_seqI, e_mt, e_frz, e_fgt, g_nm, g_tp, putAllS, putAll0, wipeS, wipe0, getS, get0, putS, put0, ok_some]
        refine lc_gen ptD (fun p => ptD (toName p)) (fun p => [some (.scr ns), some (.ref t), some (machD c dead dn), some (.int (2 * c)), some (.tup (ps.map ptD)), some (.tup (ts.map .int)), some (.int (many : Nat)), some (.int (none' : Nat)), some (.int (later : Nat)), o9, o10, o11, o12, some (.ref a), none, none, some (.int p.place), some (ch p.sign), none, some (colD p.red)]) (fun _ => true) trivial ps [] _ (by simp only [List.length_nil]; omega) (fun p hp K' hK => ⟨rfl, hK⟩) (fun p hp K2 hK => hK) (fun p hp _ K1 hK => ?_) ?_
        · simp only [wDGet2, s_seq, s_if, s_set, s_ret, s_retN, s_next, s_exp, s_asg, s_for, s_par, s_raise, e_test, e_not, e_and, e_or, e_andV, e_orV, e_notV, e_op, e_un, e_if, e_call, e_callB, e_cons, e_nil, e_tup, e_lst, e_nwF, e_c, e_var, e_sl, e_oSome, e_oNone, e_chain, e_lc, e_seqI, e_mt, e_frz, e_fgt, g_nm, g_tp, putAllS, putAll0, wipeS, wipe0, getS, get0, putS, put0, ok_some]
          refine ⟨⟨_, sup_same⟩, _, sup_same, ok_iff.mpr ⟨.inr ⟨#[p.sign]⟩, rfl, by show 3 ≤ LIM; decide, ?_⟩⟩
          rw [nm_look (hsg p hp)]
          exact hK
        · have er : [] ++ (ps.filter fun _ => true).map (fun p => ptD (toName p)) = (ps.map toName).map ptD := by rw [List.nil_append, fil_true, List.map_map]; rfl
          rw [er]
          have hnd := nodup_pts hg.r
          have hnd2 : (ps.map toName).Nodup := by
            refine List.pairwise_map.mpr (hnd.imp_of_mem fun {a b} ha hb hne e => hne (nm_inj (hsg a ha) (hsg b hb) e))
          have hsg2 : ∀ q ∈ ps.map toName, q.sign < 128 := fun q hq => by
            obtain ⟨p, hp, rfl⟩ := List.mem_map.mp hq
            have : ∀ c ∈ gSigns, nmC c < 128 := by decide
            exact this _ (hsg p hp)
          refine sort_by ptD ptLt (ps.map toName) rfl (fun p hp => pt_dok (hsg2 p hp)) (fun a _ b _ => pt_alike a b) (.inl fun d hd => ?_) (fun a ha b hb => pt_lt (hsg2 a ha) (hsg2 b hb)) fun ys hp hs => ?_
          · obtain ⟨p, _, rfl⟩ := List.mem_map.mp hd; exact ⟨_, _, rfl⟩
          · have hr : rise ptLt ys = true := by
              have nd : ys.Nodup := hp.symm.nodup hnd2
              exact rise_of ((hs.and nd).imp fun hh => ptLt_total hh.1 hh.2)
            have hgn : Gm.ok ⟨2 * c, dead, ts, ys⟩ := by
              refine ⟨hgo.1, hgo.2.1, hM.de, ht, by rw [hp.length_eq, List.length_map]; omega, fun q hq => ?_, hr⟩
              obtain ⟨p, hp', rfl⟩ := List.mem_map.mp (hp.subset hq)
              have : ∀ s ∈ gSigns, nmC s ∈ signsG.cps.toList := by decide +kernel
              obtain ⟨h1, h2, h3⟩ := hg.b p hp'
              exact ⟨h1, by show p.place ≤ 2 * c; omega, this _ h3⟩
            have hpn : ∀ q ∈ ys, q.place + 2 ≤ 2 * c := fun q hq => by
              obtain ⟨p, hp', rfl⟩ := List.mem_map.mp (hp.subset hq)
              exact hpl p hp'
            simp only [e_nwF, wTuple, asQ, asL, ok_some]
            simp only [psi_law_t17, s_seq, s_if, s_set, s_ret, s_retN, s_next, s_exp, s_asg, s_for, s_par, s_raise, e_test, e_not, e_and, e_or, e_andV, e_orV, e_notV, e_op, e_un, e_if, e_call, e_callB, e_cons, e_nil, e_tup, e_lst, e_nwF, e_c, e_var, e_sl, e_oSome, e_oNone, e_chain, e_lc, e_seqI, e_mt, e_frz, e_fgt, g_nm, g_tp, putAllS, putAll0, wipeS, wipe0, getS, get0, putS, put0, ok_some]
            refine ⟨rfl, call hgn hpn (cost_name hM.de hsg hp hmany) ?_⟩
            rw [ei]
            simp only [decide_true]
            exact h _
      simp only [psi_law_t14, s_seq, s_if, s_set, s_ret, s_retN, s_next, s_exp, s_asg, s_for, s_par, s_raise, e_test, e_not, e_and, e_or, e_andV, e_orV, e_notV, e_op, e_un, e_if, e_call, e_callB, e_cons, e_nil, e_tup, e_lst, e_nwF, e_c, e_var, e_sl, e_oSome, e_oNone, e_chain, e_lc, e_seqI, e_mt, e_frz, e_fgt, g_nm, g_tp, putAllS, putAll0, wipeS, wipe0, getS, get0, putS, put0, ok_some]
      refine lc_map ptD (fun p => .bl (decide (97 ≤ p.sign ∧ p.sign ≤ 122))) trivial ps [] _ (by simp only [List.length_nil]; omega) (fun p hp K1 hK => ?_) ?_
      · simp only [s_seq, s_if, s_set, s_ret, s_retN, s_next, s_exp, s_asg, s_for, s_par, s_raise, e_test, e_not, e_and, e_or, e_andV, e_orV, e_notV, e_op, e_un, e_if, e_call, e_callB, e_cons, e_nil, e_tup, e_lst, e_nwF, e_c, e_var, e_sl, e_oSome, e_oNone, e_chain, e_lc, e_seqI, e_mt, e_frz, e_fgt, g_nm, g_tp, putAllS, putAll0, wipeS, wipe0, getS, get0, putS, put0, ok_some]
        have ix1 : ∀ (m : Store) (K : KD), wIx (ptD p) (.int 1) m K = K (ch p.sign) m := fun _ _ => rfl
        rw [ix1]
        have le1 : ∀ (m : Store) (K : KD), K (.bl (decide (97 ≤ p.sign))) m → wLe (.str (PySem.Str.ofString "a")) (ch p.sign) m K := fun m K hK => by
          have : (!decide ([p.sign] < [97])) = decide (97 ≤ p.sign) := by
            rw [Bool.eq_iff_iff]; simp
          show K (.bl (!decide ((ch1 p.sign).cps.toList < (PySem.Str.ofString "a").cps.toList))) m
          have e : (PySem.Str.ofString "a").cps.toList = [97] := by decide +kernel
          rw [e]
          show K (.bl (!decide ([p.sign] < [97]))) m
          rw [this]; exact hK
        have le2 : ∀ (m : Store) (K : KD), K (.bl (decide (p.sign ≤ 122))) m → wLe (ch p.sign) (.str (PySem.Str.ofString "z")) m K := fun m K hK => by
          have : (!decide ([122] < [p.sign])) = decide (p.sign ≤ 122) := by
            rw [Bool.eq_iff_iff]; simp
          show K (.bl (!decide ((PySem.Str.ofString "z").cps.toList < (ch1 p.sign).cps.toList))) m
          have e : (PySem.Str.ofString "z").cps.toList = [122] := by decide +kernel
          rw [e]
          show K (.bl (!decide ([122] < [p.sign]))) m
          rw [this]; exact hK
        refine le1 _ _ ?_
        by_cases h97 : 97 ≤ p.sign
        · rw [decide_eq_true h97]
          refine le2 _ _ ?_
          simpa [h97] using hK
        · rw [decide_eq_false h97]
          simpa [h97] using hK
      · rw [List.nil_append]
        have e : ps.map (fun p => D.bl (decide (97 ≤ p.sign ∧ p.sign ≤ 122))) = (ps.map fun p => decide (97 ≤ p.sign ∧ p.sign ≤ 122)).map .bl := by simp
        rw [e]
        refine all_lst ?_
        cases hall : (ps.map fun p => decide (97 ≤ p.sign ∧ p.sign ≤ 122)).all id with
        | false => exact t15 _
        | true =>
          simp only [if_true]
          refine ⟨by decide, net _ _ ?_⟩
          by_cases hne : ps = []
          · simp only [hne, ne_eq, not_true_eq_false, decide_false, Bool.false_eq_true, if_false]
            have := t15 none
            rw [hne] at this
            exact this
          · rw [show decide (ps ≠ []) = true from decide_eq_true hne]
            simp only [if_true]
            have hsm : ∀ q ∈ ps, 97 ≤ q.sign ∧ q.sign ≤ 122 := by simpa [List.all_map] using hall
            refine lc_gen ptD (fun p => ptD (toGreat p)) (fun p => [some (.scr ns), some (.ref t), some (machD c dead dn), some (.int (2 * c)), some (.tup (ps.map ptD)), some (.tup (ts.map .int)), some (.int (many : Nat)), some (.int (none' : Nat)), some (.int (later : Nat)), o9, o10, o11, none, none, none, none, some (.int p.place), some (ch p.sign), some (colD p.red), none]) (fun _ => true) trivial ps [] _ (by simp only [List.length_nil]; omega) (fun p hp K' hK => ⟨rfl, hK⟩) (fun p hp K2 hK => hK) (fun p hp _ K1 hK => ?_) ?_
            · simp only [s_seq, s_if, s_set, s_ret, s_retN, s_next, s_exp, s_asg, s_for, s_par, s_raise, e_test, e_not, e_and, e_or, e_andV, e_orV, e_notV, e_op, e_un, e_if, e_call, e_callB, e_cons, e_nil, e_tup, e_lst, e_nwF, e_c, e_var, e_sl, e_oSome, e_oNone, e_chain, e_lc, e_seqI, e_mt, e_frz, e_fgt, g_nm, g_tp, putAllS, putAll0, wipeS, wipe0, getS, get0, putS, put0, ok_some]
              refine ⟨rfl, ?_⟩
              have : ∀ c ∈ gSigns, c < 128 := by decide
              exact ⟨p.sign, rfl, this _ (hsg p hp), by show 3 ≤ LIM; decide, hK⟩
            · simp only [wTuple, asQ, asL, ok_some]
              have er : [] ++ (ps.filter fun _ => true).map (fun p => ptD (toGreat p)) = (ps.map toGreat).map ptD := by rw [List.nil_append, fil_true, List.map_map]; rfl
              rw [er]
              have hup : ∀ q ∈ ps, (toGreat q).sign = q.sign - 32 := fun q hq => by
                unfold toGreat upC
                simp [hsm q hq]
              have hgr : Gm.ok ⟨2 * c, dead, ts, ps.map toGreat⟩ := by
                refine ⟨hgo.1, hgo.2.1, hM.de, ht, by rw [List.length_map]; omega, fun q hq => ?_, rise_map hg.r fun a ha b hb hlt => ?_⟩
                · obtain ⟨p, hp', rfl⟩ := List.mem_map.mp hq
                  have : ∀ s ∈ gSigns, upC s ∈ signsG.cps.toList := by decide +kernel
                  obtain ⟨h1, h2, h3⟩ := hg.b p hp'
                  exact ⟨h1, by show p.place ≤ 2 * c; omega, this _ h3⟩
                · have h1 := hup a ha
                  have h2 := hup b hb
                  have h3 := hsm a ha
                  have h4 := hsm b hb
                  unfold ptLt at hlt ⊢
                  rw [h1, h2]
                  simp only [Bool.or_eq_true, Bool.and_eq_true, decide_eq_true_eq] at hlt ⊢
                  rcases hlt with z | ⟨z1, z | ⟨z2, z3⟩⟩
                  · exact .inl z
                  · exact .inr ⟨z1, .inl (by omega)⟩
                  · exact .inr ⟨z1, .inr ⟨by omega, z3⟩⟩
              have hplr : ∀ q ∈ ps.map toGreat, q.place + 2 ≤ 2 * c := fun q hq => by
                obtain ⟨p, hp', rfl⟩ := List.mem_map.mp hq
                exact hpl p hp'
              refine ⟨rfl, call hgr hplr (cost_great hM.de hsm hne hmany) ?_⟩
              rw [addi, nei]
              have : decide (((many + 1 : Nat) : Int) = ((many : Nat) : Int) + 1) = true := decide_eq_true (by omega)
              rw [this]
              exact t15 _
    simp only [psi_law_t13, s_seq, s_if, s_set, s_ret, s_retN, s_next, s_exp, s_asg, s_for, s_par, s_raise, e_test, e_not, e_and, e_or, e_andV, e_orV, e_notV, e_op, e_un, e_if, e_call, e_callB, e_cons, e_nil, e_tup, e_lst, e_nwF, e_c, e_var, e_sl, e_oSome, e_oNone, e_chain, e_lc, e_seqI, e_mt, e_frz, e_fgt, g_nm, g_tp, putAllS, putAll0, wipeS, wipe0, getS, get0, putS, put0, ok_some]
    refine lc_map ptD (fun p => .bl (!p.red)) trivial ps [] _ (by simp only [List.length_nil]; omega) (fun p hp K1 hK => ?_) ?_
    · simp only [s_seq, s_if, s_set, s_ret, s_retN, s_next, s_exp, s_asg, s_for, s_par, s_raise, e_test, e_not, e_and, e_or, e_andV, e_orV, e_notV, e_op, e_un, e_if, e_call, e_callB, e_cons, e_nil, e_tup, e_lst, e_nwF, e_c, e_var, e_sl, e_oSome, e_oNone, e_chain, e_lc, e_seqI, e_mt, e_frz, e_fgt, g_nm, g_tp, putAllS, putAll0, wipeS, wipe0, getS, get0, putS, put0, ok_some]
      have ix2 : ∀ (m : Store) (K : KD), wIx (ptD p) (.int 2) m K = K (colD p.red) m := fun _ _ => rfl
      rw [ix2]
      have : ∀ (b : Bool) (m : Store) (K : KD), K (.bl (!b)) m → wEq (colD b) (.str (PySem.Str.ofString "black")) m K := fun b m K hK => by
        cases b
        · simpa [colD, wordD, wEq] using hK
        · simpa [colD, wordD, wEq] using hK
      exact this _ _ _ hK
    · rw [List.nil_append]
      have e : ps.map (fun p => D.bl (!p.red)) = (ps.map fun p => !p.red).map .bl := by simp
      rw [e]
      refine all_lst ?_
      cases hall : (ps.map fun p => !p.red).all id with
      | false => exact t14 _ _ _
      | true =>
        simp only [if_true]
        refine ⟨by decide, net _ _ ?_⟩
        by_cases hne : ps = []
        · simp only [hne, ne_eq, not_true_eq_false, decide_false, Bool.false_eq_true, if_false]
          have := t14 o9 o10 none
          rw [hne] at this
          exact this
        · rw [show decide (ps ≠ []) = true from decide_eq_true hne]
          simp only [if_true]
          have hbl : ∀ q ∈ ps, q.red = false := by simpa [List.all_map] using hall
          refine lc_gen ptD (fun p => ptD (toRed p)) (fun p => [some (.scr ns), some (.ref t), some (machD c dead dn), some (.int (2 * c)), some (.tup (ps.map ptD)), some (.tup (ts.map .int)), some (.int (many : Nat)), some (.int (none' : Nat)), some (.int (later : Nat)), o9, o10, none, none, none, none, none, some (.int p.place), some (ch p.sign), some (colD p.red), none]) (fun _ => true) trivial ps [] _ (by simp only [List.length_nil]; omega) (fun p hp K' hK => ⟨rfl, hK⟩) (fun p hp K2 hK => hK) (fun p hp _ K1 hK => ?_) ?_
          · simp only [s_seq, s_if, s_set, s_ret, s_retN, s_next, s_exp, s_asg, s_for, s_par, s_raise, e_test, e_not, e_and, e_or, e_andV, e_orV, e_notV, e_op, e_un, e_if, e_call, e_callB, e_cons, e_nil, e_tup, e_lst, e_nwF, e_c, e_var, e_sl, e_oSome, e_oNone, e_chain, e_lc, e_seqI, e_mt, e_frz, e_fgt, g_nm, g_tp, putAllS, putAll0, wipeS, wipe0, getS, get0, putS, put0, ok_some]
            exact ⟨by show 3 ≤ LIM; decide, hK⟩
          · simp only [wTuple, asQ, asL, ok_some]
            have er : [] ++ (ps.filter fun _ => true).map (fun p => ptD (toRed p)) = (ps.map toRed).map ptD := by rw [List.nil_append, fil_true, List.map_map]; rfl
            rw [er]
            have hgr : GDr c (ps.map toRed) := ⟨fun p hp => by
              obtain ⟨q, hq, rfl⟩ := List.mem_map.mp hp
              exact hg.b q hq, rise_map hg.r fun a ha b hb hlt => by
                have h1 := hbl a ha
                have h2 := hbl b hb
                unfold ptLt toRed at *
                rw [h1, h2] at hlt
                simpa using hlt⟩
            have hgor := gdr_ok hM ht hgr (by simp; omega)
            have hplr : ∀ q ∈ ps.map toRed, q.place + 2 ≤ 2 * c := fun q hq => by have := (hgr.b q hq).2.1; omega
            refine ⟨rfl, call hgor hplr (cost_red hbl hne hmany) ?_⟩
            rw [addi, nei]
            have : decide (((many + 1 : Nat) : Int) = ((many : Nat) : Int) + 1) = true := decide_eq_true (by omega)
            rw [this]
            exact t14 _ _ _
end DL
end
section
set_option maxHeartbeats 0
namespace DL.K17
open PySem PySem.Spec PyProof.Rows L2 DL
def top (i : Nat) : Stmt := PySem.Challenge.pw_inkcarriage_k17_whole_more_tabs.main.body.getD i (.Pass ⟨0, 0, 0, 0⟩)
abbrev s_is_whole : Stmt := top 14
abbrev N_is_whole : List Str := ["thing", "low", "most"]
theorem sc_is_whole : FnScope N_is_whole ["thing", "low", "most"] (defScope s_is_whole) := ⟨rfl, rfl, rfl, by decide +kernel, rfl, by decide +kernel, by decide +kernel⟩
abbrev s_is_one_of : Stmt := top 15
abbrev N_is_one_of : List Str := ["thing", "signs"]
theorem sc_is_one_of : FnScope N_is_one_of ["thing", "signs"] (defScope s_is_one_of) := ⟨rfl, rfl, rfl, by decide +kernel, rfl, by decide +kernel, by decide +kernel⟩
abbrev s_is_rising : Stmt := top 16
abbrev N_is_rising : List Str := ["thing", "one", "other"]
theorem sc_is_rising : FnScope N_is_rising ["thing"] (defScope s_is_rising) := ⟨rfl, rfl, rfl, by decide +kernel, rfl, by decide +kernel, by decide +kernel⟩
abbrev s_is_machine : Stmt := top 17
abbrev N_is_machine : List Str := ["thing", "sign"]
theorem sc_is_machine : FnScope N_is_machine ["thing"] (defScope s_is_machine) := ⟨rfl, rfl, rfl, by decide +kernel, rfl, by decide +kernel, by decide +kernel⟩
abbrev s_need_machine : Stmt := top 18
abbrev N_need_machine : List Str := ["thing"]
theorem sc_need_machine : FnScope N_need_machine ["thing"] (defScope s_need_machine) := ⟨rfl, rfl, rfl, by decide +kernel, rfl, by decide +kernel, by decide +kernel⟩
abbrev s_end_of : Stmt := top 19
abbrev N_end_of : List Str := ["machine"]
theorem sc_end_of : FnScope N_end_of ["machine"] (defScope s_end_of) := ⟨rfl, rfl, rfl, by decide +kernel, rfl, by decide +kernel, by decide +kernel⟩
abbrev s_need_tabs : Stmt := top 20
abbrev N_need_tabs : List Str := ["machine", "thing", "place"]
theorem sc_need_tabs : FnScope N_need_tabs ["machine", "thing"] (defScope s_need_tabs) := ⟨rfl, rfl, rfl, by decide +kernel, rfl, by decide +kernel, by decide +kernel⟩
abbrev s_is_part : Stmt := top 24
abbrev N_is_part : List Str := ["machine", "thing"]
theorem sc_is_part : FnScope N_is_part ["machine", "thing"] (defScope s_is_part) := ⟨rfl, rfl, rfl, by decide +kernel, rfl, by decide +kernel, by decide +kernel⟩
abbrev s_need_goal : Stmt := top 25
abbrev N_need_goal : List Str := ["machine", "thing", "part"]
theorem sc_need_goal : FnScope N_need_goal ["machine", "thing"] (defScope s_need_goal) := ⟨rfl, rfl, rfl, by decide +kernel, rfl, by decide +kernel, by decide +kernel⟩
abbrev s_key_for : Stmt := top 26
abbrev N_key_for : List Str := ["sign"]
theorem sc_key_for : FnScope N_key_for ["sign"] (defScope s_key_for) := ⟨rfl, rfl, rfl, by decide +kernel, rfl, by decide +kernel, by decide +kernel⟩
abbrev s_can_strike : Stmt := top 27
abbrev N_can_strike : List Str := ["sign", "caps"]
theorem sc_can_strike : FnScope N_can_strike ["sign", "caps"] (defScope s_can_strike) := ⟨rfl, rfl, rfl, by decide +kernel, rfl, by decide +kernel, by decide +kernel⟩
abbrev s_steps_on : Stmt := top 28
abbrev N_steps_on : List Str := ["machine", "tabs", "stand", "goal", "place", "colour", "caps", "left", "end", "some", "number", "spot", "sign", "wish", "later", "rest", "moves", "other", "tab", "word"]
theorem sc_steps_on : FnScope N_steps_on ["machine", "tabs", "stand", "goal"] (defScope s_steps_on) := ⟨rfl, rfl, rfl, by decide +kernel, rfl, by decide +kernel, by decide +kernel⟩
abbrev s_way_back : Stmt := top 29
abbrev N_way_back : List Str := ["found", "stand", "keys", "key", "ahead"]
theorem sc_way_back : FnScope N_way_back ["found", "stand"] (defScope s_way_back) := ⟨rfl, rfl, rfl, by decide +kernel, rfl, by decide +kernel, by decide +kernel⟩
abbrev s_fewest : Stmt := top 30
abbrev N_fewest : List Str := ["machine", "tabs", "goal", "first", "found", "row", "later_ones", "stand", "key", "later"]
theorem sc_fewest : FnScope N_fewest ["machine", "tabs", "goal"] (defScope s_fewest) := ⟨rfl, rfl, rfl, by decide +kernel, rfl, by decide +kernel, by decide +kernel⟩
abbrev s__law_cell_at : Stmt := top 32
abbrev N__law_cell_at : List Str := ["script", "k"]
theorem sc__law_cell_at : FnScope N__law_cell_at ["script", "k"] (defScope s__law_cell_at) := ⟨rfl, rfl, rfl, by decide +kernel, rfl, by decide +kernel, by decide +kernel⟩
abbrev s__law_mixed : Stmt := top 33
abbrev N__law_mixed : List Str := ["script", "k", "many", "drawn"]
theorem sc__law_mixed : FnScope N__law_mixed ["script", "k", "many"] (defScope s__law_mixed) := ⟨rfl, rfl, rfl, by decide +kernel, rfl, by decide +kernel, by decide +kernel⟩
abbrev s__law_draw : Stmt := top 34
abbrev N__law_draw : List Str := ["script", "town", "many"]
theorem sc__law_draw : FnScope N__law_draw ["script", "town", "many"] (defScope s__law_draw) := ⟨rfl, rfl, rfl, by decide +kernel, rfl, by decide +kernel, by decide +kernel⟩
abbrev s__law_pick : Stmt := top 35
abbrev N__law_pick : List Str := ["script", "town", "some"]
theorem sc__law_pick : FnScope N__law_pick ["script", "town", "some"] (defScope s__law_pick) := ⟨rfl, rfl, rfl, by decide +kernel, rfl, by decide +kernel, by decide +kernel⟩
abbrev s__law_machine : Stmt := top 36
abbrev N__law_machine : List Str := ["script", "town", "columns", "dead", "sign"]
theorem sc__law_machine : FnScope N__law_machine ["script", "town"] (defScope s__law_machine) := ⟨rfl, rfl, rfl, by decide +kernel, rfl, by decide +kernel, by decide +kernel⟩
abbrev s__law_goal : Stmt := top 37
abbrev N__law_goal : List Str := ["script", "town", "machine", "most", "made", "k", "place"]
theorem sc__law_goal : FnScope N__law_goal ["script", "town", "machine", "most"] (defScope s__law_goal) := ⟨rfl, rfl, rfl, by decide +kernel, rfl, by decide +kernel, by decide +kernel⟩
abbrev s__law_tabs : Stmt := top 38
abbrev N__law_tabs : List Str := ["script", "town", "machine", "most", "many", "k"]
theorem sc__law_tabs : FnScope N__law_tabs ["script", "town", "machine", "most"] (defScope s__law_tabs) := ⟨rfl, rfl, rfl, by decide +kernel, rfl, by decide +kernel, by decide +kernel⟩
abbrev s__law_many : Stmt := top 39
abbrev N__law_many : List Str := ["machine", "tabs", "goal", "found"]
theorem sc__law_many : FnScope N__law_many ["machine", "tabs", "goal"] (defScope s__law_many) := ⟨rfl, rfl, rfl, by decide +kernel, rfl, by decide +kernel, by decide +kernel⟩
abbrev s_law : Stmt := top 40
abbrev N_law : List Str := ["script", "town", "machine", "end", "goal", "tabs", "many", "none", "later", "at", "less", "red", "great", "names", "news", "part", "place", "sign", "colour", "wish"]
theorem sc_law : FnScope N_law ["script"] (defScope s_law) := ⟨rfl, rfl, rfl, by decide +kernel, rfl, by decide +kernel, by decide +kernel⟩
structure Txt (K : PySem.W.Frag) (mg : Str → Option Value) (A : Ad) where
  ad : AdX A
  f_is_whole : Fn K mg "is_whole" "is_whole" s_is_whole ["thing", "low", "most"]
  gf_is_whole : mg "is_whole" = some (.ref f_is_whole.f)
  f_is_one_of : Fn K mg "is_one_of" "is_one_of" s_is_one_of ["thing", "signs"]
  gf_is_one_of : mg "is_one_of" = some (.ref f_is_one_of.f)
  f_is_rising : Fn K mg "is_rising" "is_rising" s_is_rising ["thing"]
  gf_is_rising : mg "is_rising" = some (.ref f_is_rising.f)
  f_is_machine : Fn K mg "is_machine" "is_machine" s_is_machine ["thing"]
  gf_is_machine : mg "is_machine" = some (.ref f_is_machine.f)
  f_need_machine : Fn K mg "need_machine" "need_machine" s_need_machine ["thing"]
  gf_need_machine : mg "need_machine" = some (.ref f_need_machine.f)
  f_end_of : Fn K mg "end_of" "end_of" s_end_of ["machine"]
  gf_end_of : mg "end_of" = some (.ref f_end_of.f)
  f_need_tabs : Fn K mg "need_tabs" "need_tabs" s_need_tabs ["machine", "thing"]
  gf_need_tabs : mg "need_tabs" = some (.ref f_need_tabs.f)
  f_is_part : Fn K mg "is_part" "is_part" s_is_part ["machine", "thing"]
  gf_is_part : mg "is_part" = some (.ref f_is_part.f)
  f_need_goal : Fn K mg "need_goal" "need_goal" s_need_goal ["machine", "thing"]
  gf_need_goal : mg "need_goal" = some (.ref f_need_goal.f)
  f_key_for : Fn K mg "key_for" "key_for" s_key_for ["sign"]
  gf_key_for : mg "key_for" = some (.ref f_key_for.f)
  f_can_strike : Fn K mg "can_strike" "can_strike" s_can_strike ["sign", "caps"]
  gf_can_strike : mg "can_strike" = some (.ref f_can_strike.f)
  f_steps_on : Fn K mg "steps_on" "steps_on" s_steps_on ["machine", "tabs", "stand", "goal"]
  gf_steps_on : mg "steps_on" = some (.ref f_steps_on.f)
  f_way_back : Fn K mg "way_back" "way_back" s_way_back ["found", "stand"]
  gf_way_back : mg "way_back" = some (.ref f_way_back.f)
  f_fewest : Fn K mg "fewest" "fewest" s_fewest ["machine", "tabs", "goal"]
  gf_fewest : mg "fewest" = some (.ref f_fewest.f)
  f__law_cell_at : Fn K mg "_law_cell_at" "_law_cell_at" s__law_cell_at ["script", "k"]
  gf__law_cell_at : mg "_law_cell_at" = some (.ref f__law_cell_at.f)
  f__law_mixed : Fn K mg "_law_mixed" "_law_mixed" s__law_mixed ["script", "k", "many"]
  gf__law_mixed : mg "_law_mixed" = some (.ref f__law_mixed.f)
  f__law_draw : Fn K mg "_law_draw" "_law_draw" s__law_draw ["script", "town", "many"]
  gf__law_draw : mg "_law_draw" = some (.ref f__law_draw.f)
  f__law_pick : Fn K mg "_law_pick" "_law_pick" s__law_pick ["script", "town", "some"]
  gf__law_pick : mg "_law_pick" = some (.ref f__law_pick.f)
  f__law_machine : Fn K mg "_law_machine" "_law_machine" s__law_machine ["script", "town"]
  gf__law_machine : mg "_law_machine" = some (.ref f__law_machine.f)
  f__law_goal : Fn K mg "_law_goal" "_law_goal" s__law_goal ["script", "town", "machine", "most"]
  gf__law_goal : mg "_law_goal" = some (.ref f__law_goal.f)
  f__law_tabs : Fn K mg "_law_tabs" "_law_tabs" s__law_tabs ["script", "town", "machine", "most"]
  gf__law_tabs : mg "_law_tabs" = some (.ref f__law_tabs.f)
  f__law_many : Fn K mg "_law_many" "_law_many" s__law_many ["machine", "tabs", "goal"]
  gf__law_many : mg "_law_many" = some (.ref f__law_many.f)
  f_law : Fn K mg "law" "law" s_law ["script"]
  gf_law : mg "law" = some (.ref f_law.f)
  x_NoMachine : ExF K mg "NoMachine" A.xNoMachine
  x_NoPlace : ExF K mg "NoPlace" A.xNoPlace
  x_NoGoal : ExF K mg "NoGoal" A.xNoGoal
  g_LETTERS : ∃ t, mg "LETTERS" = some (.str G_LETTERS t)
  g_GREAT : ∃ t, mg "GREAT" = some (.str G_GREAT t)
  g_DEAD : ∃ t, mg "DEAD" = some (.str G_DEAD t)
  g_SIGNS : ∃ t, mg "SIGNS" = some (.str G_SIGNS t)
  g_LEAST : ∃ t, mg "LEAST" = some (.int 8 t)
  g_WIDEST : ∃ t, mg "WIDEST" = some (.int 40 t)
  g_TABS : ∃ t, mg "TABS" = some (.int 6 t)
  g_MOST : ∃ t, mg "MOST" = some (.int 5 t)
  g_COLOURS : ∃ a, mg "COLOURS" = some (.ref a) ∧ ∀ B, Dp K B (.ref a) (.tup G_COLOURS)
  b_all : mg "all" = none
  b_bool : mg "bool" = none
  b_enumerate : mg "enumerate" = none
  b_int : mg "int" = none
  b_isinstance : mg "isinstance" = none
  b_len : mg "len" = none
  b_min : mg "min" = none
  b_range : mg "range" = none
  b_set : mg "set" = none
  b_sorted : mg "sorted" = none
  b_str : mg "str" = none
  b_tuple : mg "tuple" = none
  b_zip : mg "zip" = none
section
variable {P : Program} {w : World} {K : PySem.W.Frag} {mg : Str → Option Value} {base : Heap} {A : Ad}
theorem ok_is_whole (T : Txt K mg A) : FnOk P w K mg base (L2N.CX P w) 1 T.f_is_whole.f T.f_is_whole.fd ["thing", "low", "most"] (spD K 3 (ph_is_whole A)) := by
  have sc := sc_is_whole
  refine fnD (b := psi_is_whole A) T.f_is_whole.F sc (fun cdv Ar outer s H E hr => ?_) (fun ds m R x h hl => dt_is_whole T.ad.toAdOk ds m R x h)
  exact psd_one (psd_ret (pd_and (pd_callB (isi_) (by rfl) T.b_isinstance (by decide +kernel) (pad_cons (pd_var 0 (pv 0)) (pad_cons (pd_bty T.b_int (by decide +kernel) (by rfl)) (pad_nil)))) (pd_and (pd_not (pd_callB (isi_) (by rfl) T.b_isinstance (by decide +kernel) (pad_cons (pd_var 0 (pv 0)) (pad_cons (pd_bty T.b_bool (by decide +kernel) (by rfl)) (pad_nil))))) (pd_one (pd_chain le_ le_ (pd_var 1 (pv 1)) (pd_var 0 (pv 0)) (pd_var 2 (pv 2)))))))
theorem ok_is_one_of (T : Txt K mg A) : FnOk P w K mg base (L2N.CX P w) 1 T.f_is_one_of.f T.f_is_one_of.fd ["thing", "signs"] (spD K 2 (ph_is_one_of A)) := by
  have sc := sc_is_one_of
  refine fnD (b := psi_is_one_of A) T.f_is_one_of.F sc (fun cdv Ar outer s H E hr => ?_) (fun ds m R x h hl => dt_is_one_of T.ad.toAdOk ds m R x h)
  exact psd_one (psd_ret (pd_and (pd_callB (isi_) (by rfl) T.b_isinstance (by decide +kernel) (pad_cons (pd_var 0 (pv 0)) (pad_cons (pd_bty T.b_str (by decide +kernel) (by rfl)) (pad_nil)))) (pd_and (pd_cmp (eq_ (u64 hr)) (pd_callB (len_) (by rfl) T.b_len (by decide +kernel) (pad_cons (pd_var 0 (pv 0)) (pad_nil))) (pd_int) (nomark _)) (pd_one (pd_cmp (in_ (u65 hr)) (pd_var 0 (pv 0)) (pd_var 1 (pv 1)) (by rfl))))))
theorem ok_is_rising (T : Txt K mg A) : FnOk P w K mg base (L2N.CX P w) 1 T.f_is_rising.f T.f_is_rising.fd ["thing"] (spD K 1 (ph_is_rising A)) := by
  have sc := sc_is_rising
  refine fnD (b := psi_is_rising A) T.f_is_rising.F sc (fun cdv Ar outer s H E hr => ?_) (fun ds m R x h hl => dt_is_rising T.ad.toAdOk ds m R x h)
  exact psd_one (psd_ret (pd_callB (all_ rfl) (by rfl) T.b_all (by decide +kernel) (pad_cons (pd_lc (own := [("one", 1), ("other", 2)]) rfl sc.nd (g_tup [1, 2]) (lcw_tup (by decide)) (pid_zip (by rfl) T.b_zip (pd_var 0 (pv 0)) (pd_sl cut_ (pd_var 0 (pv 0)) (pod_some (pd_int)) (pod_none))) (blkOk_by (N := N_is_rising) (sc := defScope s_is_rising) (by decide +kernel)) (fun _ _ _ _ _ => pg_tup rfl (pgs_cons (pg_name (i := 1) sc.nd rfl (by first | exact Or.inl rfl | exact Or.inr rfl)) (pgs_cons (pg_name (i := 2) sc.nd rfl (by first | exact Or.inl rfl | exact Or.inr rfl)) (pgs_nil)))) (fun _ _ _ _ _ => ptsd_nil) (fun _ _ _ _ _ => pd_cmp (ltDt_ (u64 hr)) (pd_var 1 (pv 1)) (pd_var 2 (pv 2)) (nomark _))) (pad_nil))))
theorem ok_end_of (T : Txt K mg A) : FnOk P w K mg base (L2N.CX P w) 1 T.f_end_of.f T.f_end_of.fd ["machine"] (spD K 1 (ph_end_of A)) := by
  have sc := sc_end_of
  refine fnD (b := psi_end_of A) T.f_end_of.F sc (fun cdv Ar outer s H E hr => ?_) (fun ds m R x h hl => dt_end_of T.ad.toAdOk ds m R x h)
  exact psd_one (psd_ret (pd_op mul_ (pd_int) (pd_ix ix_ (pd_var 0 (pv 0)) (pd_int) (fun _ _ => rfl))))
theorem ok_key_for (T : Txt K mg A) : FnOk P w K mg base (L2N.CX P w) 1 T.f_key_for.f T.f_key_for.fd ["sign"] (spD K 1 (ph_key_for A)) := by
  have sc := sc_key_for
  refine fnD (b := psi_key_for A) T.f_key_for.F sc (fun cdv Ar outer s H E hr => ?_) (fun ds m R x h hl => dt_key_for T.ad.toAdOk ds m R x h)
  exact psd_one (psd_ret (pd_tup (pad_cons (pd_str) (pad_cons (pd_if (ptd_cmp (in_ (u65 hr)) (pd_var 0 (pv 0)) (pd_gs T.g_GREAT (by rfl)) (by rfl)) (pd_ix ix_ (pd_gs T.g_LETTERS (by rfl)) (pd_mt PySem.F.plainAttrs_str PySem.F.slot_str_index PySem.F.type_str_index sindex_ (pd_gs T.g_GREAT (by rfl)) (pad_cons (pd_var 0 (pv 0)) (pad_nil))) (fun _ _ => rfl)) (pd_var 0 (pv 0))) (pad_nil)))))
theorem ok_can_strike (T : Txt K mg A) : FnOk P w K mg base (L2N.CX P w) 1 T.f_can_strike.f T.f_can_strike.fd ["sign", "caps"] (spD K 2 (ph_can_strike A)) := by
  have sc := sc_can_strike
  refine fnD (b := psi_can_strike A) T.f_can_strike.F sc (fun cdv Ar outer s H E hr => ?_) (fun ds m R x h hl => dt_can_strike T.ad.toAdOk ds m R x h)
  exact psd_one (psd_ret (pd_if (ptd_cmp (in_ (u65 hr)) (pd_var 0 (pv 0)) (pd_gs T.g_GREAT (by rfl)) (by rfl)) (pd_var 1 (pv 1)) (pd_or (pd_not (pd_var 1 (pv 1))) (pd_one (pd_cmp (notin_ (u65 hr)) (pd_var 0 (pv 0)) (pd_gs T.g_LETTERS (by rfl)) (by rfl))))))
theorem ok_way_back (T : Txt K mg A) : FnOk P w K mg base (L2N.CX P w) 1 T.f_way_back.f T.f_way_back.fd ["found", "stand"] (spD K 2 (ph_way_back A)) := by
  have sc := sc_way_back
  refine fnD (b := psi_way_back A) T.f_way_back.F sc (fun cdv Ar outer s H E hr => ?_) (fun ds m R x h hl => dt_way_back T.ad.toAdOk ds m R x h)
  exact psd_cons (psd_set (i := 2) sc.nd rfl (Or.inl rfl) (pd_lst (pad_nil))) (psd_cons (psd_while (L2.passes_of rfl) (ptd_cmp notN_ (pd_nget (u64 hr) (pd_var 0 (pv 0)) (pd_var 1 (pv 1)) (fun _ _ => rfl)) (pd_non) (nomark _)) (psd_cons (psd_asg (pd_nget (u64 hr) (pd_var 0 (pv 0)) (pd_var 1 (pv 1)) (fun _ _ => rfl)) (pg_tup rfl (pgs_cons (pg_name (i := 3) sc.nd rfl (Or.inl rfl)) (pgs_cons (pg_name (i := 4) sc.nd rfl (Or.inl rfl)) (pgs_nil)))) (g_tup [3, 4])) (psd_cons (psd_expr (pd_mt PySem.F.plainAttrs_list PySem.F.slot_list_append PySem.F.type_list_append append_ (pd_var 2 (pv 2)) (pad_cons (pd_var 3 (pv 3)) (pad_nil)))) (psd_one (psd_set (i := 1) sc.nd rfl (Or.inl rfl) (pd_var 4 (pv 4))))))) (psd_one (psd_ret (pd_fgt (pd_callTy tuple_ (by rfl) T.b_tuple (by decide +kernel) (pad_cons (pd_revL (pd_var 2 (pv 2))) (pad_nil)))))))
theorem ok__law_cell_at (T : Txt K mg A) : FnOk P w K mg base (L2N.CX P w) 1 T.f__law_cell_at.f T.f__law_cell_at.fd ["script", "k"] (spD K 2 (ph__law_cell_at A)) := by
  have sc := sc__law_cell_at
  refine fnD (b := psi__law_cell_at A) T.f__law_cell_at.F sc (fun cdv Ar outer s H E hr => ?_) (fun ds m R x h hl => dt__law_cell_at T.ad.toAdOk ds m R x h)
  exact psd_cons (psd_if (ptd_cmp lt_ (pd_var 1 (pv 1)) (pd_callB (len_) (by rfl) T.b_len (by decide +kernel) (pad_cons (pd_var 0 (pv 0)) (pad_nil))) (nomark _)) (psd_one (psd_ret (pd_ix ix_ (pd_var 0 (pv 0)) (pd_var 1 (pv 1)) (fun _ _ => rfl)))) (psd_nil)) (psd_cons (psd_if (ptd_cmp (eqS_ (u64 hr)) (pd_var 0 (pv 0)) (pd_lst (pad_nil)) (nomark _)) (psd_one (psd_ret (pd_int))) (psd_nil)) (psd_one (psd_ret (pd_op add_ (pd_op mul_ (pd_ix ix_ (pd_var 0 (pv 0)) (pd_op mod_ (pd_var 1 (pv 1)) (pd_callB (len_) (by rfl) T.b_len (by decide +kernel) (pad_cons (pd_var 0 (pv 0)) (pad_nil)))) (fun _ _ => rfl)) (pd_int)) (pd_var 1 (pv 1))))))
theorem ok_is_machine (T : Txt K mg A) : FnOk P w K mg base (L2N.CX P w) 2 T.f_is_machine.f T.f_is_machine.fd ["thing"] (spD K 1 (ph_is_machine A)) := by
  have sc := sc_is_machine
  refine fnD (b := psi_is_machine A) T.f_is_machine.F sc (fun cdv Ar outer s H E hr => ?_) (fun ds m R x h hl => dt_is_machine T.ad.toAdOk ds m R x h)
  have tk := L2N.takes_of (X := cxD P w K mg base N_is_machine "is_machine" s_is_machine T.f_is_machine.f cdv Ar outer s H E) (E := E) rfl rfl rfl rfl
  exact psd_cons (psd_if (PW.pt (pwd_or (ptd_not (ptd_val (pd_callB (isi_) (by rfl) T.b_isinstance (by decide +kernel) (pad_cons (pd_var 0 (pv 0)) (pad_cons (pd_bty T.b_tuple (by decide +kernel) (by rfl)) (pad_nil)))))) (pwd_or (ptd_cmp (ne_ (u64 hr)) (pd_callB (len_) (by rfl) T.b_len (by decide +kernel) (pad_cons (pd_var 0 (pv 0)) (pad_nil))) (pd_int) (nomark _)) (pwd_or1 (ptd_not (ptd_val (pd_call (ok_is_whole T) (hr.mono (by decide)) tk (by rfl) T.gf_is_whole T.f_is_whole.F.kp T.f_is_whole.b (pad_cons (pd_ix ix_ (pd_var 0 (pv 0)) (pd_int) (fun _ _ => rfl)) (pad_cons (pd_gi T.g_LEAST (by rfl)) (pad_cons (pd_gi T.g_WIDEST (by rfl)) (pad_nil))))))))))) (psd_one (psd_ret (pd_bl))) (psd_nil)) (psd_cons (psd_if (PW.pt (pwd_or (ptd_not (ptd_val (pd_callB (isi_) (by rfl) T.b_isinstance (by decide +kernel) (pad_cons (pd_ix ix_ (pd_var 0 (pv 0)) (pd_int) (fun _ _ => rfl)) (pad_cons (pd_bty T.b_tuple (by decide +kernel) (by rfl)) (pad_nil)))))) (pwd_or1 (ptd_not (ptd_val (pd_callB (all_ rfl) (by rfl) T.b_all (by decide +kernel) (pad_cons (pd_lc (own := [("sign", 1)]) rfl sc.nd (g_name 1) (lcw_name (by decide)) (pid_seq (pd_ix ix_ (pd_var 0 (pv 0)) (pd_int) (fun _ _ => rfl))) (blkOk_by (N := N_is_machine) (sc := defScope s_is_machine) (by decide +kernel)) (fun _ _ _ _ _ => pg_name (i := 1) sc.nd rfl (by first | exact Or.inl rfl | exact Or.inr rfl)) (fun _ _ _ _ _ => ptsd_nil) (fun _ _ _ _ _ => pd_call (ok_is_one_of T) (hr.mono (by decide)) takesN0 (by rfl) T.gf_is_one_of T.f_is_one_of.F.kp T.f_is_one_of.b (pad_cons (pd_var 1 (pv 1)) (pad_cons (pd_gs T.g_DEAD (by rfl)) (pad_nil))))) (pad_nil)))))))) (psd_one (psd_ret (pd_bl))) (psd_nil)) (psd_one (psd_ret (pd_and (pd_call (ok_is_rising T) (hr.mono (by decide)) tk (by rfl) T.gf_is_rising T.f_is_rising.F.kp T.f_is_rising.b (pad_cons (pd_ix ix_ (pd_var 0 (pv 0)) (pd_int) (fun _ _ => rfl)) (pad_nil))) (pd_one (pd_call (ok_is_whole T) (hr.mono (by decide)) tk (by rfl) T.gf_is_whole T.f_is_whole.F.kp T.f_is_whole.b (pad_cons (pd_ix ix_ (pd_var 0 (pv 0)) (pd_int) (fun _ _ => rfl)) (pad_cons (pd_int) (pad_cons (pd_int) (pad_nil))))))))))
theorem ok_need_tabs (T : Txt K mg A) : FnOk P w K mg base (L2N.CX P w) 2 T.f_need_tabs.f T.f_need_tabs.fd ["machine", "thing"] (spD K 2 (ph_need_tabs A)) := by
  have sc := sc_need_tabs
  refine fnD (b := psi_need_tabs A) T.f_need_tabs.F sc (fun cdv Ar outer s H E hr => ?_) (fun ds m R x h hl => dt_need_tabs T.ad.toAdOk ds m R x h)
  have tk := L2N.takes_of (X := cxD P w K mg base N_need_tabs "need_tabs" s_need_tabs T.f_need_tabs.f cdv Ar outer s H E) (E := E) rfl rfl rfl rfl
  exact psd_cons (psd_if (PW.pt (pwd_or (ptd_not (ptd_val (pd_callB (isi_) (by rfl) T.b_isinstance (by decide +kernel) (pad_cons (pd_var 1 (pv 1)) (pad_cons (pd_bty T.b_tuple (by decide +kernel) (by rfl)) (pad_nil)))))) (pwd_or1 (ptd_cmp gt_ (pd_callB (len_) (by rfl) T.b_len (by decide +kernel) (pad_cons (pd_var 1 (pv 1)) (pad_nil))) (pd_gi T.g_TABS (by rfl)) (nomark _))))) (psd_one (psd_raise rfl tk T.x_NoPlace (by rfl))) (psd_nil)) (psd_one (psd_if (PW.pt (pwd_or (ptd_not (ptd_val (pd_callB (all_ rfl) (by rfl) T.b_all (by decide +kernel) (pad_cons (pd_lc (own := [("place", 2)]) rfl sc.nd (g_name 2) (lcw_name (by decide)) (pid_seq (pd_var 1 (pv 1))) (blkOk_by (N := N_need_tabs) (sc := defScope s_need_tabs) (by decide +kernel)) (fun _ _ _ _ _ => pg_name (i := 2) sc.nd rfl (by first | exact Or.inl rfl | exact Or.inr rfl)) (fun _ _ _ _ _ => ptsd_nil) (fun _ _ _ _ _ => pd_call (ok_is_whole T) (hr.mono (by decide)) takesN0 (by rfl) T.gf_is_whole T.f_is_whole.F.kp T.f_is_whole.b (pad_cons (pd_var 2 (pv 2)) (pad_cons (pd_int) (pad_cons (pd_call (ok_end_of T) (hr.mono (by decide)) takesN0 (by rfl) T.gf_end_of T.f_end_of.F.kp T.f_end_of.b (pad_cons (pd_var 0 (pv 0)) (pad_nil))) (pad_nil)))))) (pad_nil))))) (pwd_or1 (ptd_not (ptd_val (pd_call (ok_is_rising T) (hr.mono (by decide)) tk (by rfl) T.gf_is_rising T.f_is_rising.F.kp T.f_is_rising.b (pad_cons (pd_var 1 (pv 1)) (pad_nil)))))))) (psd_one (psd_raise rfl tk T.x_NoPlace (by rfl))) (psd_nil)))
theorem ok_is_part (T : Txt K mg A) : FnOk P w K mg base (L2N.CX P w) 2 T.f_is_part.f T.f_is_part.fd ["machine", "thing"] (spD K 2 (ph_is_part A)) := by
  have sc := sc_is_part
  refine fnD (b := psi_is_part A) T.f_is_part.F sc (fun cdv Ar outer s H E hr => ?_) (fun ds m R x h hl => dt_is_part T.ad.toAdOk ds m R x h)
  have tk := L2N.takes_of (X := cxD P w K mg base N_is_part "is_part" s_is_part T.f_is_part.f cdv Ar outer s H E) (E := E) rfl rfl rfl rfl
  exact psd_cons (psd_if (PW.pt (pwd_or (ptd_not (ptd_val (pd_callB (isi_) (by rfl) T.b_isinstance (by decide +kernel) (pad_cons (pd_var 1 (pv 1)) (pad_cons (pd_bty T.b_tuple (by decide +kernel) (by rfl)) (pad_nil)))))) (pwd_or (ptd_cmp (ne_ (u64 hr)) (pd_callB (len_) (by rfl) T.b_len (by decide +kernel) (pad_cons (pd_var 1 (pv 1)) (pad_nil))) (pd_int) (nomark _)) (pwd_or1 (ptd_not (ptd_val (pd_call (ok_is_whole T) (hr.mono (by decide)) tk (by rfl) T.gf_is_whole T.f_is_whole.F.kp T.f_is_whole.b (pad_cons (pd_ix ix_ (pd_var 1 (pv 1)) (pd_int) (fun _ _ => rfl)) (pad_cons (pd_int) (pad_cons (pd_call (ok_end_of T) (hr.mono (by decide)) tk (by rfl) T.gf_end_of T.f_end_of.F.kp T.f_end_of.b (pad_cons (pd_var 0 (pv 0)) (pad_nil))) (pad_nil))))))))))) (psd_one (psd_ret (pd_bl))) (psd_nil)) (psd_one (psd_ret (pd_and (pd_call (ok_is_one_of T) (hr.mono (by decide)) tk (by rfl) T.gf_is_one_of T.f_is_one_of.F.kp T.f_is_one_of.b (pad_cons (pd_ix ix_ (pd_var 1 (pv 1)) (pd_int) (fun _ _ => rfl)) (pad_cons (pd_op add_ (pd_gs T.g_SIGNS (by rfl)) (pd_gs T.g_GREAT (by rfl))) (pad_nil)))) (pd_and (pd_callB (isi_) (by rfl) T.b_isinstance (by decide +kernel) (pad_cons (pd_ix ix_ (pd_var 1 (pv 1)) (pd_int) (fun _ _ => rfl)) (pad_cons (pd_bty T.b_str (by decide +kernel) (by rfl)) (pad_nil)))) (pd_one (pd_cmp (in_ (u65 hr)) (pd_ix ix_ (pd_var 1 (pv 1)) (pd_int) (fun _ _ => rfl)) (pd_gt T.g_COLOURS (by rfl)) (by rfl)))))))
theorem ok_steps_on (T : Txt K mg A) : FnOk P w K mg base (L2N.CX P w) 2 T.f_steps_on.f T.f_steps_on.fd ["machine", "tabs", "stand", "goal"] (spD K 4 (ph_steps_on A)) := by
  have sc := sc_steps_on
  refine fnD (b := psi_steps_on A) T.f_steps_on.F sc (fun cdv Ar outer s H E hr => ?_) (fun ds m R x h hl => dt_steps_on T.ad.toAdOk ds m R x h)
  have tk := L2N.takes_of (X := cxD P w K mg base N_steps_on "steps_on" s_steps_on T.f_steps_on.f cdv Ar outer s H E) (E := E) rfl rfl rfl rfl
  exact psd_cons (psd_asg (pd_var 2 (pv 2)) (pg_tup rfl (pgs_cons (pg_name (i := 4) sc.nd rfl (Or.inr rfl)) (pgs_cons (pg_name (i := 5) sc.nd rfl (Or.inr rfl)) (pgs_cons (pg_name (i := 6) sc.nd rfl (Or.inr rfl)) (pgs_cons (pg_name (i := 7) sc.nd rfl (Or.inr rfl)) (pgs_nil)))))) (g_tup [4, 5, 6, 7])) (psd_cons (psd_set (i := 8) sc.nd rfl (Or.inr rfl) (pd_call (ok_end_of T) (hr.mono (by decide)) tk (by rfl) T.gf_end_of T.f_end_of.F.kp T.f_end_of.b (pad_cons (pd_var 0 (pv 0)) (pad_nil)))) (psd_cons (psd_set (i := 9) sc.nd rfl (Or.inl rfl) (pd_lst (pad_nil))) (psd_cons (psd_for (L2.passes_of rfl) rfl (pid_enumA (by rfl) T.b_enumerate (pd_var 3 (pv 3))) (pg_tup rfl (pgs_cons (pg_name (i := 10) sc.nd rfl (Or.inr rfl)) (pgs_cons (pg_tup rfl (pgs_cons (pg_name (i := 11) sc.nd rfl (Or.inl rfl)) (pgs_cons (pg_name (i := 12) sc.nd rfl (Or.inl rfl)) (pgs_cons (pg_name (i := 13) sc.nd rfl (Or.inl rfl)) (pgs_nil))))) pgs_nil))) (g_tn 10 [11, 12, 13]) (psd_one (psd_if (PW.pt (pwd_and (ptd_cmp (in_ (u65 hr)) (pd_var 10 (pv 10)) (pd_var 7 (pv 7)) (by rfl)) (pwd_and (ptd_cmp (eq_ (u64 hr)) (pd_var 11 (pv 11)) (pd_var 4 (pv 4)) (nomark _)) (pwd_and (ptd_cmp (eq_ (u64 hr)) (pd_var 13 (pv 13)) (pd_ix ix_ (pd_gt T.g_COLOURS (by rfl)) (pd_var 5 (pv 5)) (fun _ _ => rfl)) (nomark _)) (pwd_and (ptd_val (pd_call (ok_can_strike T) (hr.mono (by decide)) tk (by rfl) T.gf_can_strike T.f_can_strike.F.kp T.f_can_strike.b (pad_cons (pd_var 12 (pv 12)) (pad_cons (pd_var 6 (pv 6)) (pad_nil))))) (pwd_and1 (ptd_cmp le_ (pd_op add_ (pd_var 4 (pv 4)) (pd_int)) (pd_var 8 (pv 8)) (nomark _)))))))) (psd_cons (psd_set (i := 14) sc.nd rfl (Or.inl rfl) (pd_if (ptd_cmp (in_ (u65 hr)) (pd_var 12 (pv 12)) (pd_ix ix_ (pd_var 0 (pv 0)) (pd_int) (fun _ _ => rfl)) (by rfl)) (pd_var 4 (pv 4)) (pd_op add_ (pd_var 4 (pv 4)) (pd_int)))) (psd_cons (psd_set (i := 15) sc.nd rfl (Or.inl rfl) (pd_callTy tuple_ (by rfl) T.b_tuple (by decide +kernel) (pad_cons (pd_lc (own := [("other", 17)]) rfl sc.nd (g_name 17) (lcw_name (by decide)) (pid_seq (pd_var 7 (pv 7))) (blkOk_by (N := N_steps_on) (sc := defScope s_steps_on) (by decide +kernel)) (fun _ _ _ _ _ => pg_name (i := 17) sc.nd rfl (by first | exact Or.inl rfl | exact Or.inr rfl)) (fun _ _ _ _ _ => pts_one (ptd_cmp (ne_ (u64 hr)) (pd_var 17 (pv 17)) (pd_var 10 (pv 10)) (nomark _))) (fun _ _ _ _ _ => pd_var 17 (pv 17))) (pad_nil)))) (psd_one (psd_expr (pd_mt PySem.F.plainAttrs_list PySem.F.slot_list_append PySem.F.type_list_append append_ (pd_var 9 (pv 9)) (pad_cons (pd_tup (pad_cons (pd_call (ok_key_for T) (hr.mono (by decide)) tk (by rfl) T.gf_key_for T.f_key_for.F.kp T.f_key_for.b (pad_cons (pd_var 12 (pv 12)) (pad_nil))) (pad_cons (pd_tup (pad_cons (pd_var 14 (pv 14)) (pad_cons (pd_var 5 (pv 5)) (pad_cons (pd_var 6 (pv 6)) (pad_cons (pd_var 15 (pv 15)) (pad_nil)))))) (pad_nil)))) (pad_nil))))))) (psd_nil)))) (psd_cons (psd_set (i := 16) sc.nd rfl (Or.inl rfl) (pd_lst (pad_cons (pd_tup (pad_cons (pd_str) (pad_cons (pd_op add_ (pd_var 4 (pv 4)) (pd_int)) (pad_nil)))) (pad_cons (pd_tup (pad_cons (pd_str) (pad_cons (pd_op add_ (pd_var 4 (pv 4)) (pd_int)) (pad_nil)))) (pad_cons (pd_tup (pad_cons (pd_str) (pad_cons (pd_op sub_ (pd_var 4 (pv 4)) (pd_int)) (pad_nil)))) (pad_nil)))))) (psd_cons (psd_expr (pd_mt PySem.F.plainAttrs_list PySem.F.slot_list_extend PySem.F.type_list_extend extend_ (pd_var 16 (pv 16)) (pad_cons (pd_lc (own := [("tab", 18)]) rfl sc.nd (g_name 18) (lcw_name (by decide)) (pid_seq (pd_sl cut_ (pd_lc (own := [("tab", 18)]) rfl sc.nd (g_name 18) (lcw_name (by decide)) (pid_seq (pd_var 1 (pv 1))) (blkOk_by (N := N_steps_on) (sc := defScope s_steps_on) (by decide +kernel)) (fun _ _ _ _ _ => pg_name (i := 18) sc.nd rfl (by first | exact Or.inl rfl | exact Or.inr rfl)) (fun _ _ _ _ _ => pts_one (ptd_cmp gt_ (pd_var 18 (pv 18)) (pd_var 4 (pv 4)) (nomark _))) (fun _ _ _ _ _ => pd_var 18 (pv 18))) (pod_none) (pod_some (pd_int)))) (blkOk_by (N := N_steps_on) (sc := defScope s_steps_on) (by decide +kernel)) (fun _ _ _ _ _ => pg_name (i := 18) sc.nd rfl (by first | exact Or.inl rfl | exact Or.inr rfl)) (fun _ _ _ _ _ => ptsd_nil) (fun _ _ _ _ _ => pd_tup (pad_cons (pd_str) (pad_cons (pd_var 18 (pv 18)) (pad_nil))))) (pad_nil)))) (psd_cons (psd_expr (pd_mt PySem.F.plainAttrs_list PySem.F.slot_list_extend PySem.F.type_list_extend extend_ (pd_var 9 (pv 9)) (pad_cons (pd_lc (own := [("word", 19), ("later", 14)]) rfl sc.nd (g_tup [19, 14]) (lcw_tup (by decide)) (pid_seq (pd_var 16 (pv 16))) (blkOk_by (N := N_steps_on) (sc := defScope s_steps_on) (by decide +kernel)) (fun _ _ _ _ _ => pg_tup rfl (pgs_cons (pg_name (i := 19) sc.nd rfl (by first | exact Or.inl rfl | exact Or.inr rfl)) (pgs_cons (pg_name (i := 14) sc.nd rfl (by first | exact Or.inl rfl | exact Or.inr rfl)) (pgs_nil)))) (fun _ _ _ _ _ => pts_one (ptd_chain le_ le_ (pd_int) (pd_var 14 (pv 14)) (pd_var 8 (pv 8)))) (fun _ _ _ _ _ => pd_tup (pad_cons (pd_tup (pad_cons (pd_var 19 (pv 19)) (pad_nil))) (pad_cons (pd_tup (pad_cons (pd_var 14 (pv 14)) (pad_cons (pd_var 5 (pv 5)) (pad_cons (pd_var 6 (pv 6)) (pad_cons (pd_var 7 (pv 7)) (pad_nil)))))) (pad_nil))))) (pad_nil)))) (psd_cons (psd_expr (pd_mt PySem.F.plainAttrs_list PySem.F.slot_list_append PySem.F.type_list_append append_ (pd_var 9 (pv 9)) (pad_cons (pd_tup (pad_cons (pd_tup (pad_cons (pd_str) (pad_nil))) (pad_cons (pd_tup (pad_cons (pd_var 4 (pv 4)) (pad_cons (pd_op sub_ (pd_int) (pd_var 5 (pv 5))) (pad_cons (pd_var 6 (pv 6)) (pad_cons (pd_var 7 (pv 7)) (pad_nil)))))) (pad_nil)))) (pad_nil)))) (psd_cons (psd_expr (pd_mt PySem.F.plainAttrs_list PySem.F.slot_list_append PySem.F.type_list_append append_ (pd_var 9 (pv 9)) (pad_cons (pd_tup (pad_cons (pd_tup (pad_cons (pd_str) (pad_nil))) (pad_cons (pd_tup (pad_cons (pd_var 4 (pv 4)) (pad_cons (pd_var 5 (pv 5)) (pad_cons (pd_not (pd_var 6 (pv 6))) (pad_cons (pd_var 7 (pv 7)) (pad_nil)))))) (pad_nil)))) (pad_nil)))) (psd_one (psd_ret (pd_fgt (pd_frz (pd_var 9 (pv 9))))))))))))))
theorem ok__law_mixed (T : Txt K mg A) : FnOk P w K mg base (L2N.CX P w) 2 T.f__law_mixed.f T.f__law_mixed.fd ["script", "k", "many"] (spD K 3 (ph__law_mixed A)) := by
  have sc := sc__law_mixed
  refine fnD (b := psi__law_mixed A) T.f__law_mixed.F sc (fun cdv Ar outer s H E hr => ?_) (fun ds m R x h hl => dt__law_mixed T.ad.toAdOk ds m R x h)
  have tk := L2N.takes_of (X := cxD P w K mg base N__law_mixed "_law_mixed" s__law_mixed T.f__law_mixed.f cdv Ar outer s H E) (E := E) rfl rfl rfl rfl
  exact psd_cons (psd_set (i := 3) sc.nd rfl (Or.inl rfl) (pd_op mod_ (pd_op add_ (pd_op add_ (pd_op mul_ (pd_call (ok__law_cell_at T) (hr.mono (by decide)) tk (by rfl) T.gf__law_cell_at T.f__law_cell_at.F.kp T.f__law_cell_at.b (pad_cons (pd_var 0 (pv 0)) (pad_cons (pd_var 1 (pv 1)) (pad_nil)))) (pd_int)) (pd_op mul_ (pd_int) (pd_var 1 (pv 1)))) (pd_int)) (pd_int))) (psd_one (psd_ret (pd_op mod_ (pd_op mod_ (pd_op mod_ (pd_op pow_ (pd_var 3 (pv 3)) (pd_int)) (pd_int)) (pd_int)) (pd_var 2 (pv 2)))))
theorem ok_need_machine (T : Txt K mg A) : FnOk P w K mg base (L2N.CX P w) 3 T.f_need_machine.f T.f_need_machine.fd ["thing"] (spD K 1 (ph_need_machine A)) := by
  have sc := sc_need_machine
  refine fnD (b := psi_need_machine A) T.f_need_machine.F sc (fun cdv Ar outer s H E hr => ?_) (fun ds m R x h hl => dt_need_machine T.ad.toAdOk ds m R x h)
  have tk := L2N.takes_of (X := cxD P w K mg base N_need_machine "need_machine" s_need_machine T.f_need_machine.f cdv Ar outer s H E) (E := E) rfl rfl rfl rfl
  exact psd_one (psd_if (ptd_not (ptd_val (pd_call (ok_is_machine T) (hr.mono (by decide)) tk (by rfl) T.gf_is_machine T.f_is_machine.F.kp T.f_is_machine.b (pad_cons (pd_var 0 (pv 0)) (pad_nil))))) (psd_one (psd_raise rfl tk T.x_NoMachine (by rfl))) (psd_nil))
theorem ok_need_goal (T : Txt K mg A) : FnOk P w K mg base (L2N.CX P w) 3 T.f_need_goal.f T.f_need_goal.fd ["machine", "thing"] (spD K 2 (ph_need_goal A)) := by
  have sc := sc_need_goal
  refine fnD (b := psi_need_goal A) T.f_need_goal.F sc (fun cdv Ar outer s H E hr => ?_) (fun ds m R x h hl => dt_need_goal T.ad.toAdOk ds m R x h)
  have tk := L2N.takes_of (X := cxD P w K mg base N_need_goal "need_goal" s_need_goal T.f_need_goal.f cdv Ar outer s H E) (E := E) rfl rfl rfl rfl
  exact psd_cons (psd_if (PW.pt (pwd_or (ptd_not (ptd_val (pd_callB (isi_) (by rfl) T.b_isinstance (by decide +kernel) (pad_cons (pd_var 1 (pv 1)) (pad_cons (pd_bty T.b_tuple (by decide +kernel) (by rfl)) (pad_nil)))))) (pwd_or (ptd_cmp gt_ (pd_callB (len_) (by rfl) T.b_len (by decide +kernel) (pad_cons (pd_var 1 (pv 1)) (pad_nil))) (pd_gi T.g_MOST (by rfl)) (nomark _)) (pwd_or1 (ptd_not (ptd_val (pd_callB (all_ rfl) (by rfl) T.b_all (by decide +kernel) (pad_cons (pd_lc (own := [("part", 2)]) rfl sc.nd (g_name 2) (lcw_name (by decide)) (pid_seq (pd_var 1 (pv 1))) (blkOk_by (N := N_need_goal) (sc := defScope s_need_goal) (by decide +kernel)) (fun _ _ _ _ _ => pg_name (i := 2) sc.nd rfl (by first | exact Or.inl rfl | exact Or.inr rfl)) (fun _ _ _ _ _ => ptsd_nil) (fun _ _ _ _ _ => pd_call (ok_is_part T) (hr.mono (by decide)) takesN0 (by rfl) T.gf_is_part T.f_is_part.F.kp T.f_is_part.b (pad_cons (pd_var 0 (pv 0)) (pad_cons (pd_var 2 (pv 2)) (pad_nil))))) (pad_nil))))))))) (psd_one (psd_raise rfl tk T.x_NoGoal (by rfl))) (psd_nil)) (psd_one (psd_if (ptd_not (ptd_val (pd_call (ok_is_rising T) (hr.mono (by decide)) tk (by rfl) T.gf_is_rising T.f_is_rising.F.kp T.f_is_rising.b (pad_cons (pd_var 1 (pv 1)) (pad_nil))))) (psd_one (psd_raise rfl tk T.x_NoGoal (by rfl))) (psd_nil)))
theorem ok__law_draw (T : Txt K mg A) : FnOk P w K mg base (L2N.CX P w) 3 T.f__law_draw.f T.f__law_draw.fd ["script", "town", "many"] (spD K 3 (ph__law_draw A)) := by
  have sc := sc__law_draw
  refine fnD (b := psi__law_draw A) T.f__law_draw.F sc (fun cdv Ar outer s H E hr => ?_) (fun ds m R x h hl => dt__law_draw T.ad.toAdOk ds m R x h)
  have tk := L2N.takes_of (X := cxD P w K mg base N__law_draw "_law_draw" s__law_draw T.f__law_draw.f cdv Ar outer s H E) (E := E) rfl rfl rfl rfl
  exact psd_cons (psd_expr (pd_mt PySem.F.plainAttrs_list PySem.F.slot_list_append PySem.F.type_list_append append_ (pd_var 1 (pv 1)) (pad_cons (pd_int) (pad_nil)))) (psd_one (psd_ret (pd_call (ok__law_mixed T) (hr.mono (by decide)) tk (by rfl) T.gf__law_mixed T.f__law_mixed.F.kp T.f__law_mixed.b (pad_cons (pd_var 0 (pv 0)) (pad_cons (pd_callB (len_) (by rfl) T.b_len (by decide +kernel) (pad_cons (pd_var 1 (pv 1)) (pad_nil))) (pad_cons (pd_var 2 (pv 2)) (pad_nil)))))))
theorem ok_fewest (T : Txt K mg A) : FnOk P w K mg base (L2N.CX P w) 4 T.f_fewest.f T.f_fewest.fd ["machine", "tabs", "goal"] (spD K 3 (ph_fewest A)) := by
  have sc := sc_fewest
  refine fnD (b := psi_fewest A) T.f_fewest.F sc (fun cdv Ar outer s H E hr => ?_) (fun ds m R x h hl => dt_fewest T.ad.toAdOk ds m R x h)
  have tk := L2N.takes_of (X := cxD P w K mg base N_fewest "fewest" s_fewest T.f_fewest.f cdv Ar outer s H E) (E := E) rfl rfl rfl rfl
  exact psd_cons (psd_expr (pd_call (ok_need_machine T) (hr.mono (by decide)) tk (by rfl) T.gf_need_machine T.f_need_machine.F.kp T.f_need_machine.b (pad_cons (pd_var 0 (pv 0)) (pad_nil)))) (psd_cons (psd_expr (pd_call (ok_need_tabs T) (hr.mono (by decide)) tk (by rfl) T.gf_need_tabs T.f_need_tabs.F.kp T.f_need_tabs.b (pad_cons (pd_var 0 (pv 0)) (pad_cons (pd_var 1 (pv 1)) (pad_nil))))) (psd_cons (psd_expr (pd_call (ok_need_goal T) (hr.mono (by decide)) tk (by rfl) T.gf_need_goal T.f_need_goal.F.kp T.f_need_goal.b (pad_cons (pd_var 0 (pv 0)) (pad_cons (pd_var 2 (pv 2)) (pad_nil))))) (psd_cons (psd_set (i := 3) sc.nd rfl (Or.inl rfl) (pd_tup (pad_cons (pd_int) (pad_cons (pd_int) (pad_cons (pd_bl) (pad_cons (pd_tupRg rfl (by rfl) T.b_tuple (by rfl) T.b_range (pd_callB (len_) (by rfl) T.b_len (by decide +kernel) (pad_cons (pd_var 2 (pv 2)) (pad_nil)))) (pad_nil))))))) (psd_cons (psd_set (i := 4) sc.nd rfl (Or.inl rfl) (pd_ndisp (u64 hr) (pd_var 3 (pv 3)) (pd_non))) (psd_cons (psd_set (i := 5) sc.nd rfl (Or.inl rfl) (pd_lst (pad_cons (pd_var 3 (pv 3)) (pad_nil)))) (psd_cons (psd_while (L2.passes_of rfl) (ptd_cmp (ne_ (u64 hr)) (pd_var 5 (pv 5)) (pd_lst (pad_nil)) (nomark _)) (psd_cons (psd_set (i := 6) sc.nd rfl (Or.inl rfl) (pd_lst (pad_nil))) (psd_cons (psd_for (L2.passes_of rfl) rfl (pid_seq (pd_var 5 (pv 5))) (pg_name (i := 7) sc.nd rfl (Or.inl rfl)) (g_name 7) (psd_cons (psd_if (ptd_cmp (eq_ (u64 hr)) (pd_ix ix_ (pd_var 7 (pv 7)) (pd_int) (fun _ _ => rfl)) (pd_tup (pad_nil)) (nomark _)) (psd_one (psd_ret (pd_fgt (pd_call (ok_way_back T) (hr.mono (by decide)) tk (by rfl) T.gf_way_back T.f_way_back.F.kp T.f_way_back.b (pad_cons (pd_var 4 (pv 4)) (pad_cons (pd_var 7 (pv 7)) (pad_nil))))))) (psd_nil)) (psd_one (psd_for (L2.passes_of rfl) rfl (pid_seq (pd_call (ok_steps_on T) (hr.mono (by decide)) tk (by rfl) T.gf_steps_on T.f_steps_on.F.kp T.f_steps_on.b (pad_cons (pd_var 0 (pv 0)) (pad_cons (pd_var 1 (pv 1)) (pad_cons (pd_var 7 (pv 7)) (pad_cons (pd_var 2 (pv 2)) (pad_nil))))))) (pg_tup rfl (pgs_cons (pg_name (i := 8) sc.nd rfl (Or.inl rfl)) (pgs_cons (pg_name (i := 9) sc.nd rfl (Or.inl rfl)) (pgs_nil)))) (g_tup [8, 9]) (psd_one (psd_if (ptd_cmp (notinN_ (u64 hr)) (pd_var 9 (pv 9)) (pd_var 4 (pv 4)) (by rfl)) (psd_cons (psd_nput (u64 hr) (pd_var 4 (pv 4)) (pd_var 9 (pv 9)) (pd_tup (pad_cons (pd_var 8 (pv 8)) (pad_cons (pd_var 7 (pv 7)) (pad_nil))))) (psd_one (psd_expr (pd_mt PySem.F.plainAttrs_list PySem.F.slot_list_append PySem.F.type_list_append append_ (pd_var 6 (pv 6)) (pad_cons (pd_var 9 (pv 9)) (pad_nil)))))) (psd_nil))))))) (psd_one (psd_set (i := 5) sc.nd rfl (Or.inl rfl) (pd_var 6 (pv 6))))))) (psd_one (psd_ret (pd_fgt (pd_non))))))))))
theorem ok__law_pick (T : Txt K mg A) : FnOk P w K mg base (L2N.CX P w) 4 T.f__law_pick.f T.f__law_pick.fd ["script", "town", "some"] (spD K 3 (ph__law_pick A)) := by
  have sc := sc__law_pick
  refine fnD (b := psi__law_pick A) T.f__law_pick.F sc (fun cdv Ar outer s H E hr => ?_) (fun ds m R x h hl => dt__law_pick T.ad.toAdOk ds m R x h)
  have tk := L2N.takes_of (X := cxD P w K mg base N__law_pick "_law_pick" s__law_pick T.f__law_pick.f cdv Ar outer s H E) (E := E) rfl rfl rfl rfl
  exact psd_one (psd_ret (pd_ix ix_ (pd_var 2 (pv 2)) (pd_call (ok__law_draw T) (hr.mono (by decide)) tk (by rfl) T.gf__law_draw T.f__law_draw.F.kp T.f__law_draw.b (pad_cons (pd_var 0 (pv 0)) (pad_cons (pd_var 1 (pv 1)) (pad_cons (pd_callB (len_) (by rfl) T.b_len (by decide +kernel) (pad_cons (pd_var 2 (pv 2)) (pad_nil))) (pad_nil))))) (fun _ _ => rfl)))
theorem ok__law_tabs (T : Txt K mg A) : FnOk P w K mg base (L2N.CX P w) 4 T.f__law_tabs.f T.f__law_tabs.fd ["script", "town", "machine", "most"] (spD K 4 (ph__law_tabs A)) := by
  have sc := sc__law_tabs
  refine fnD (b := psi__law_tabs A) T.f__law_tabs.F sc (fun cdv Ar outer s H E hr => ?_) (fun ds m R x h hl => dt__law_tabs T.ad.toAdOk ds m R x h)
  have tk := L2N.takes_of (X := cxD P w K mg base N__law_tabs "_law_tabs" s__law_tabs T.f__law_tabs.f cdv Ar outer s H E) (E := E) rfl rfl rfl rfl
  exact psd_cons (psd_set (i := 4) sc.nd rfl (Or.inl rfl) (pd_call (ok__law_draw T) (hr.mono (by decide)) tk (by rfl) T.gf__law_draw T.f__law_draw.F.kp T.f__law_draw.b (pad_cons (pd_var 0 (pv 0)) (pad_cons (pd_var 1 (pv 1)) (pad_cons (pd_op add_ (pd_var 3 (pv 3)) (pd_int)) (pad_nil)))))) (psd_one (psd_ret (pd_fgt (pd_callTy tuple_ (by rfl) T.b_tuple (by decide +kernel) (pad_cons (pd_srtSetI rfl (by rfl) T.b_sorted (by rfl) T.b_set (pd_lc (own := [("k", 5)]) rfl sc.nd (g_name 5) (lcw_name (by decide)) (pid_range1 (by rfl) T.b_range (pd_var 4 (pv 4))) (blkOk_by (N := N__law_tabs) (sc := defScope s__law_tabs) (by decide +kernel)) (fun _ _ _ _ _ => pg_name (i := 5) sc.nd rfl (by first | exact Or.inl rfl | exact Or.inr rfl)) (fun _ _ _ _ _ => ptsd_nil) (fun _ _ _ _ _ => pd_call (ok__law_draw T) (hr.mono (by decide)) takesN0 (by rfl) T.gf__law_draw T.f__law_draw.F.kp T.f__law_draw.b (pad_cons (pd_var 0 (pv 0)) (pad_cons (pd_var 1 (pv 1)) (pad_cons (pd_op add_ (pd_op mul_ (pd_int) (pd_ix ix_ (pd_var 2 (pv 2)) (pd_int) (fun _ _ => rfl))) (pd_int)) (pad_nil))))))) (pad_nil))))))
theorem ok__law_machine (T : Txt K mg A) : FnOk P w K mg base (L2N.CX P w) 5 T.f__law_machine.f T.f__law_machine.fd ["script", "town"] (spD K 2 (ph__law_machine A)) := by
  have sc := sc__law_machine
  refine fnD (b := psi__law_machine A) T.f__law_machine.F sc (fun cdv Ar outer s H E hr => ?_) (fun ds m R x h hl => dt__law_machine T.ad.toAdOk ds m R x h)
  have tk := L2N.takes_of (X := cxD P w K mg base N__law_machine "_law_machine" s__law_machine T.f__law_machine.f cdv Ar outer s H E) (E := E) rfl rfl rfl rfl
  exact psd_cons (psd_set (i := 2) sc.nd rfl (Or.inl rfl) (pd_call (ok__law_pick T) (hr.mono (by decide)) tk (by rfl) T.gf__law_pick T.f__law_pick.F.kp T.f__law_pick.b (pad_cons (pd_var 0 (pv 0)) (pad_cons (pd_var 1 (pv 1)) (pad_cons (pd_lst (pad_cons (pd_int) (pad_cons (pd_int) (pad_cons (pd_int) (pad_cons (pd_int) (pad_cons (pd_int) (pad_cons (pd_int) (pad_nil)))))))) (pad_nil)))))) (psd_cons (psd_set (i := 3) sc.nd rfl (Or.inl rfl) (pd_callTy tuple_ (by rfl) T.b_tuple (by decide +kernel) (pad_cons (pd_lc (own := [("sign", 4)]) rfl sc.nd (g_name 4) (lcw_name (by decide)) (pid_seq (pd_tup (pad_cons (pd_str) (pad_cons (pd_str) (pad_cons (pd_str) (pad_nil)))))) (blkOk_by (N := N__law_machine) (sc := defScope s__law_machine) (by decide +kernel)) (fun _ _ _ _ _ => pg_name (i := 4) sc.nd rfl (by first | exact Or.inl rfl | exact Or.inr rfl)) (fun _ _ _ _ _ => pts_one (ptd_cmp (eq_ (u64 hr)) (pd_call (ok__law_draw T) (hr.mono (by decide)) takesN0 (by rfl) T.gf__law_draw T.f__law_draw.F.kp T.f__law_draw.b (pad_cons (pd_var 0 (pv 0)) (pad_cons (pd_var 1 (pv 1)) (pad_cons (pd_int) (pad_nil))))) (pd_int) (nomark _))) (fun _ _ _ _ _ => pd_var 4 (pv 4))) (pad_nil)))) (psd_one (psd_ret (pd_tup (pad_cons (pd_var 2 (pv 2)) (pad_cons (pd_var 3 (pv 3)) (pad_cons (pd_op add_ (pd_int) (pd_call (ok__law_draw T) (hr.mono (by decide)) tk (by rfl) T.gf__law_draw T.f__law_draw.F.kp T.f__law_draw.b (pad_cons (pd_var 0 (pv 0)) (pad_cons (pd_var 1 (pv 1)) (pad_cons (pd_int) (pad_nil)))))) (pad_nil))))))))
theorem ok__law_goal (T : Txt K mg A) : FnOk P w K mg base (L2N.CX P w) 5 T.f__law_goal.f T.f__law_goal.fd ["script", "town", "machine", "most"] (spD K 4 (ph__law_goal A)) := by
  have sc := sc__law_goal
  refine fnD (b := psi__law_goal A) T.f__law_goal.F sc (fun cdv Ar outer s H E hr => ?_) (fun ds m R x h hl => dt__law_goal T.ad.toAdOk ds m R x h)
  have tk := L2N.takes_of (X := cxD P w K mg base N__law_goal "_law_goal" s__law_goal T.f__law_goal.f cdv Ar outer s H E) (E := E) rfl rfl rfl rfl
  exact psd_cons (psd_set (i := 4) sc.nd rfl (Or.inl rfl) (pd_lst (pad_nil))) (psd_cons (psd_for (L2.passes_of rfl) rfl (pid_range1 (by rfl) T.b_range (pd_call (ok__law_draw T) (hr.mono (by decide)) tk (by rfl) T.gf__law_draw T.f__law_draw.F.kp T.f__law_draw.b (pad_cons (pd_var 0 (pv 0)) (pad_cons (pd_var 1 (pv 1)) (pad_cons (pd_op add_ (pd_var 3 (pv 3)) (pd_int)) (pad_nil)))))) (pg_name (i := 5) sc.nd rfl (Or.inl rfl)) (g_name 5) (psd_cons (psd_set (i := 6) sc.nd rfl (Or.inl rfl) (pd_call (ok__law_draw T) (hr.mono (by decide)) tk (by rfl) T.gf__law_draw T.f__law_draw.F.kp T.f__law_draw.b (pad_cons (pd_var 0 (pv 0)) (pad_cons (pd_var 1 (pv 1)) (pad_cons (pd_call (ok__law_pick T) (hr.mono (by decide)) tk (by rfl) T.gf__law_pick T.f__law_pick.F.kp T.f__law_pick.b (pad_cons (pd_var 0 (pv 0)) (pad_cons (pd_var 1 (pv 1)) (pad_cons (pd_lst (pad_cons (pd_int) (pad_cons (pd_int) (pad_cons (pd_op sub_ (pd_op mul_ (pd_int) (pd_ix ix_ (pd_var 2 (pv 2)) (pd_int) (fun _ _ => rfl))) (pd_int)) (pad_nil))))) (pad_nil))))) (pad_nil)))))) (psd_one (psd_expr (pd_mt PySem.F.plainAttrs_list PySem.F.slot_list_append PySem.F.type_list_append append_ (pd_var 4 (pv 4)) (pad_cons (pd_tup (pad_cons (pd_var 6 (pv 6)) (pad_cons (pd_call (ok__law_pick T) (hr.mono (by decide)) tk (by rfl) T.gf__law_pick T.f__law_pick.F.kp T.f__law_pick.b (pad_cons (pd_var 0 (pv 0)) (pad_cons (pd_var 1 (pv 1)) (pad_cons (pd_str) (pad_nil))))) (pad_cons (pd_call (ok__law_pick T) (hr.mono (by decide)) tk (by rfl) T.gf__law_pick T.f__law_pick.F.kp T.f__law_pick.b (pad_cons (pd_var 0 (pv 0)) (pad_cons (pd_var 1 (pv 1)) (pad_cons (pd_lst (pad_cons (pd_str) (pad_cons (pd_str) (pad_cons (pd_str) (pad_nil))))) (pad_nil))))) (pad_nil))))) (pad_nil))))))) (psd_one (psd_ret (pd_fgt (pd_callTy tuple_ (by rfl) T.b_tuple (by decide +kernel) (pad_cons (pd_srtSetD rfl (u64 hr) (by rfl) T.b_sorted (by rfl) T.b_set (pd_var 4 (pv 4))) (pad_nil)))))))
theorem ok__law_many (T : Txt K mg A) : FnOk P w K mg base (L2N.CX P w) 5 T.f__law_many.f T.f__law_many.fd ["machine", "tabs", "goal"] (spD K 3 (ph__law_many A)) := by
  have sc := sc__law_many
  refine fnD (b := psi__law_many A) T.f__law_many.F sc (fun cdv Ar outer s H E hr => ?_) (fun ds m R x h hl => dt__law_many T.ad.toAdOk ds m R x h)
  have tk := L2N.takes_of (X := cxD P w K mg base N__law_many "_law_many" s__law_many T.f__law_many.f cdv Ar outer s H E) (E := E) rfl rfl rfl rfl
  exact psd_cons (psd_set (i := 3) sc.nd rfl (Or.inl rfl) (pd_call (ok_fewest T) (hr.mono (by decide)) tk (by rfl) T.gf_fewest T.f_fewest.F.kp T.f_fewest.b (pad_cons (pd_var 0 (pv 0)) (pad_cons (pd_var 1 (pv 1)) (pad_cons (pd_var 2 (pv 2)) (pad_nil)))))) (psd_one (psd_ret (pd_if (ptd_cmp isN_ (pd_var 3 (pv 3)) (pd_non) (nomark _)) (pd_non) (pd_callB (len_) (by rfl) T.b_len (by decide +kernel) (pad_cons (pd_var 3 (pv 3)) (pad_nil))))))
theorem ok_law (T : Txt K mg A) : FnOk P w K mg base (L2N.CX P w) 6 T.f_law.f T.f_law.fd ["script"] (spD K 1 (ph_law A)) := by
  have sc := sc_law
  refine fnD (b := psi_law A) T.f_law.F sc (fun cdv Ar outer s H E hr => ?_) (fun ds m R x h hl => dt_law T.ad ds m R x h)
  have tk := L2N.takes_of (X := cxD P w K mg base N_law "law" s_law T.f_law.f cdv Ar outer s H E) (E := E) rfl rfl rfl rfl
  exact psd_cons (psd_set (i := 1) sc.nd rfl (Or.inl rfl) (pd_lst (pad_nil))) (psd_cons (psd_set (i := 2) sc.nd rfl (Or.inl rfl) (pd_call (ok__law_machine T) (hr.mono (by decide)) tk (by rfl) T.gf__law_machine T.f__law_machine.F.kp T.f__law_machine.b (pad_cons (pd_var 0 (pv 0)) (pad_cons (pd_var 1 (pv 1)) (pad_nil))))) (psd_cons (psd_set (i := 2) sc.nd rfl (Or.inl rfl) (pd_op add_ (pd_tup (pad_cons (pd_callB (min2_ rfl) (by rfl) T.b_min (by decide +kernel) (pad_cons (pd_int) (pad_cons (pd_ix ix_ (pd_var 2 (pv 2)) (pd_int) (fun _ _ => rfl)) (pad_nil)))) (pad_nil))) (pd_sl cut_ (pd_var 2 (pv 2)) (pod_some (pd_int)) (pod_none)))) (psd_cons (psd_set (i := 3) sc.nd rfl (Or.inr rfl) (pd_op mul_ (pd_int) (pd_ix ix_ (pd_var 2 (pv 2)) (pd_int) (fun _ _ => rfl)))) (psd_cons (psd_set (i := 4) sc.nd rfl (Or.inl rfl) (pd_callTy tuple_ (by rfl) T.b_tuple (by decide +kernel) (pad_cons (pd_lc (own := [("part", 15)]) rfl sc.nd (g_name 15) (lcw_name (by decide)) (pid_seq (pd_call (ok__law_goal T) (hr.mono (by decide)) tk (by rfl) T.gf__law_goal T.f__law_goal.F.kp T.f__law_goal.b (pad_cons (pd_var 0 (pv 0)) (pad_cons (pd_var 1 (pv 1)) (pad_cons (pd_var 2 (pv 2)) (pad_cons (pd_int) (pad_nil))))))) (blkOk_by (N := N_law) (sc := defScope s_law) (by decide +kernel)) (fun _ _ _ _ _ => pg_name (i := 15) sc.nd rfl (by first | exact Or.inl rfl | exact Or.inr rfl)) (fun _ _ _ _ _ => pts_one (ptd_cmp le_ (pd_ix ix_ (pd_var 15 (pv 15)) (pd_int) (fun _ _ => rfl)) (pd_op sub_ (pd_var 3 (pv 3)) (pd_int)) (nomark _))) (fun _ _ _ _ _ => pd_var 15 (pv 15))) (pad_nil)))) (psd_cons (psd_set (i := 5) sc.nd rfl (Or.inl rfl) (pd_call (ok__law_tabs T) (hr.mono (by decide)) tk (by rfl) T.gf__law_tabs T.f__law_tabs.F.kp T.f__law_tabs.b (pad_cons (pd_var 0 (pv 0)) (pad_cons (pd_var 1 (pv 1)) (pad_cons (pd_var 2 (pv 2)) (pad_cons (pd_int) (pad_nil))))))) (psd_cons (psd_set (i := 6) sc.nd rfl (Or.inl rfl) (pd_call (ok__law_many T) (hr.mono (by decide)) tk (by rfl) T.gf__law_many T.f__law_many.F.kp T.f__law_many.b (pad_cons (pd_var 2 (pv 2)) (pad_cons (pd_var 5 (pv 5)) (pad_cons (pd_var 4 (pv 4)) (pad_nil)))))) (psd_cons (psd_set (i := 7) sc.nd rfl (Or.inl rfl) (pd_call (ok__law_many T) (hr.mono (by decide)) tk (by rfl) T.gf__law_many T.f__law_many.F.kp T.f__law_many.b (pad_cons (pd_var 2 (pv 2)) (pad_cons (pd_tup (pad_nil)) (pad_cons (pd_var 4 (pv 4)) (pad_nil)))))) (psd_cons (psd_if (PW.pt (pwd_or (ptd_cmp (ne_ (u64 hr)) (pd_call (ok_fewest T) (hr.mono (by decide)) tk (by rfl) T.gf_fewest T.f_fewest.F.kp T.f_fewest.b (pad_cons (pd_var 2 (pv 2)) (pad_cons (pd_var 5 (pv 5)) (pad_cons (pd_tup (pad_nil)) (pad_nil))))) (pd_tup (pad_nil)) (nomark _)) (pwd_or1 (ptd_cmp (ne_ (u64 hr)) (pd_cmp (eq_ (u64 hr)) (pd_var 6 (pv 6)) (pd_int) (nomark _)) (pd_cmp (eq_ (u64 hr)) (pd_var 4 (pv 4)) (pd_tup (pad_nil)) (nomark _)) (nomark _))))) (psd_one (psd_ret (pd_bl))) (psd_nil)) (psd_cons (psd_set (i := 8) sc.nd rfl (Or.inl rfl) (pd_call (ok__law_many T) (hr.mono (by decide)) tk (by rfl) T.gf__law_many T.f__law_many.F.kp T.f__law_many.b (pad_cons (pd_var 2 (pv 2)) (pad_cons (pd_tup (pad_cons (pd_call (ok__law_draw T) (hr.mono (by decide)) tk (by rfl) T.gf__law_draw T.f__law_draw.F.kp T.f__law_draw.b (pad_cons (pd_var 0 (pv 0)) (pad_cons (pd_var 1 (pv 1)) (pad_cons (pd_op add_ (pd_var 3 (pv 3)) (pd_int)) (pad_nil))))) (pad_nil))) (pad_cons (pd_var 4 (pv 4)) (pad_nil)))))) (psd_cons (psd_if (PW.pt (pwd_or (ptd_cmp isN_ (pd_var 6 (pv 6)) (pd_non) (nomark _)) (pwd_or (ptd_cmp isN_ (pd_var 7 (pv 7)) (pd_non) (nomark _)) (pwd_or1 (ptd_cmp isN_ (pd_var 8 (pv 8)) (pd_non) (nomark _)))))) (psd_one (psd_ret (pd_cmp isN_ (pd_var 7 (pv 7)) (pd_non) (nomark _)))) (psd_nil)) (psd_cons (psd_if (PW.pt (pwd_or (ptd_cmp gt_ (pd_var 8 (pv 8)) (pd_var 7 (pv 7)) (nomark _)) (pwd_or1 (ptd_cmp gt_ (pd_var 6 (pv 6)) (pd_var 7 (pv 7)) (nomark _))))) (psd_one (psd_ret (pd_bl))) (psd_nil)) (psd_cons (psd_for (L2.passes_of rfl) rfl (pid_range1 (by rfl) T.b_range (pd_callB (len_) (by rfl) T.b_len (by decide +kernel) (pad_cons (pd_var 4 (pv 4)) (pad_nil)))) (pg_name (i := 9) sc.nd rfl (Or.inl rfl)) (g_name 9) (psd_cons (psd_set (i := 10) sc.nd rfl (Or.inl rfl) (pd_call (ok__law_many T) (hr.mono (by decide)) tk (by rfl) T.gf__law_many T.f__law_many.F.kp T.f__law_many.b (pad_cons (pd_var 2 (pv 2)) (pad_cons (pd_var 5 (pv 5)) (pad_cons (pd_op add_ (pd_sl cut_ (pd_var 4 (pv 4)) (pod_none) (pod_some (pd_var 9 (pv 9)))) (pd_sl cut_ (pd_var 4 (pv 4)) (pod_some (pd_op add_ (pd_var 9 (pv 9)) (pd_int))) (pod_none))) (pad_nil)))))) (psd_one (psd_if (PW.pt (pwd_or (ptd_cmp isN_ (pd_var 10 (pv 10)) (pd_non) (nomark _)) (pwd_or1 (PW.pt (pwd_and (ptd_cmp ge_ (pd_var 10 (pv 10)) (pd_var 6 (pv 6)) (nomark _)) (pwd_and (ptd_cmp (notin_ (u65 hr)) (pd_ix ix_ (pd_ix ix_ (pd_var 4 (pv 4)) (pd_var 9 (pv 9)) (fun _ _ => rfl)) (pd_int) (fun _ _ => rfl)) (pd_ix ix_ (pd_var 2 (pv 2)) (pd_int) (fun _ _ => rfl)) (by rfl)) (pwd_and1 (ptd_cmp (eq_ (u64 hr)) (pd_callB (len_) (by rfl) T.b_len (by decide +kernel) (pad_cons (pd_var 4 (pv 4)) (pad_nil))) (pd_int) (nomark _))))))))) (psd_one (psd_ret (pd_bl))) (psd_nil))))) (psd_cons (psd_if (PW.pt (pwd_and (ptd_val (pd_callB (all_ rfl) (by rfl) T.b_all (by decide +kernel) (pad_cons (pd_lc (own := [("part", 15)]) rfl sc.nd (g_name 15) (lcw_name (by decide)) (pid_seq (pd_var 4 (pv 4))) (blkOk_by (N := N_law) (sc := defScope s_law) (by decide +kernel)) (fun _ _ _ _ _ => pg_name (i := 15) sc.nd rfl (by first | exact Or.inl rfl | exact Or.inr rfl)) (fun _ _ _ _ _ => ptsd_nil) (fun _ _ _ _ _ => pd_cmp (eq_ (u64 hr)) (pd_ix ix_ (pd_var 15 (pv 15)) (pd_int) (fun _ _ => rfl)) (pd_str) (nomark _))) (pad_nil)))) (pwd_and1 (ptd_cmp (ne_ (u64 hr)) (pd_var 4 (pv 4)) (pd_tup (pad_nil)) (nomark _))))) (psd_cons (psd_set (i := 11) sc.nd rfl (Or.inl rfl) (pd_callTy tuple_ (by rfl) T.b_tuple (by decide +kernel) (pad_cons (pd_lc (own := [("place", 16), ("sign", 17), ("colour", 18)]) rfl sc.nd (g_tup [16, 17, 18]) (lcw_tup (by decide)) (pid_seq (pd_var 4 (pv 4))) (blkOk_by (N := N_law) (sc := defScope s_law) (by decide +kernel)) (fun _ _ _ _ _ => pg_tup rfl (pgs_cons (pg_name (i := 16) sc.nd rfl (by first | exact Or.inl rfl | exact Or.inr rfl)) (pgs_cons (pg_name (i := 17) sc.nd rfl (by first | exact Or.inl rfl | exact Or.inr rfl)) (pgs_cons (pg_name (i := 18) sc.nd rfl (by first | exact Or.inl rfl | exact Or.inr rfl)) (pgs_nil))))) (fun _ _ _ _ _ => ptsd_nil) (fun _ _ _ _ _ => pd_tup (pad_cons (pd_var 16 (pv 16)) (pad_cons (pd_var 17 (pv 17)) (pad_cons (pd_str) (pad_nil)))))) (pad_nil)))) (psd_one (psd_if (ptd_cmp (ne_ (u64 hr)) (pd_call (ok__law_many T) (hr.mono (by decide)) tk (by rfl) T.gf__law_many T.f__law_many.F.kp T.f__law_many.b (pad_cons (pd_var 2 (pv 2)) (pad_cons (pd_var 5 (pv 5)) (pad_cons (pd_var 11 (pv 11)) (pad_nil))))) (pd_op add_ (pd_var 6 (pv 6)) (pd_int)) (nomark _)) (psd_one (psd_ret (pd_bl))) (psd_nil)))) (psd_nil)) (psd_cons (psd_if (PW.pt (pwd_and (ptd_val (pd_callB (all_ rfl) (by rfl) T.b_all (by decide +kernel) (pad_cons (pd_lc (own := [("part", 15)]) rfl sc.nd (g_name 15) (lcw_name (by decide)) (pid_seq (pd_var 4 (pv 4))) (blkOk_by (N := N_law) (sc := defScope s_law) (by decide +kernel)) (fun _ _ _ _ _ => pg_name (i := 15) sc.nd rfl (by first | exact Or.inl rfl | exact Or.inr rfl)) (fun _ _ _ _ _ => ptsd_nil) (fun _ _ _ _ _ => pd_chain le_ le_ (pd_str) (pd_ix ix_ (pd_var 15 (pv 15)) (pd_int) (fun _ _ => rfl)) (pd_str))) (pad_nil)))) (pwd_and1 (ptd_cmp (ne_ (u64 hr)) (pd_var 4 (pv 4)) (pd_tup (pad_nil)) (nomark _))))) (psd_cons (psd_set (i := 12) sc.nd rfl (Or.inl rfl) (pd_callTy tuple_ (by rfl) T.b_tuple (by decide +kernel) (pad_cons (pd_lc (own := [("place", 16), ("sign", 17), ("colour", 18)]) rfl sc.nd (g_tup [16, 17, 18]) (lcw_tup (by decide)) (pid_seq (pd_var 4 (pv 4))) (blkOk_by (N := N_law) (sc := defScope s_law) (by decide +kernel)) (fun _ _ _ _ _ => pg_tup rfl (pgs_cons (pg_name (i := 16) sc.nd rfl (by first | exact Or.inl rfl | exact Or.inr rfl)) (pgs_cons (pg_name (i := 17) sc.nd rfl (by first | exact Or.inl rfl | exact Or.inr rfl)) (pgs_cons (pg_name (i := 18) sc.nd rfl (by first | exact Or.inl rfl | exact Or.inr rfl)) (pgs_nil))))) (fun _ _ _ _ _ => ptsd_nil) (fun _ _ _ _ _ => pd_tup (pad_cons (pd_var 16 (pv 16)) (pad_cons (pd_mt0 PySem.F.plainAttrs_str PySem.F.slot_str_upper PySem.F.type_str_upper upper_ (pd_var 17 (pv 17))) (pad_cons (pd_var 18 (pv 18)) (pad_nil)))))) (pad_nil)))) (psd_one (psd_if (ptd_cmp (ne_ (u64 hr)) (pd_call (ok__law_many T) (hr.mono (by decide)) tk (by rfl) T.gf__law_many T.f__law_many.F.kp T.f__law_many.b (pad_cons (pd_var 2 (pv 2)) (pad_cons (pd_var 5 (pv 5)) (pad_cons (pd_var 12 (pv 12)) (pad_nil))))) (pd_op add_ (pd_var 6 (pv 6)) (pd_int)) (nomark _)) (psd_one (psd_ret (pd_bl))) (psd_nil)))) (psd_nil)) (psd_cons (psd_set (i := 13) sc.nd rfl (Or.inr rfl) (pd_disp (ppd_cons (pd_str) (pd_str) (ppd_cons (pd_str) (pd_str) (ppd_cons (pd_str) (pd_str) (ppd_cons (pd_str) (pd_str) (ppd_nil))))) rfl rfl (fun z => nomatch z) (by decide))) (psd_cons (psd_set (i := 14) sc.nd rfl (Or.inl rfl) (pd_callTy tuple_ (by rfl) T.b_tuple (by decide +kernel) (pad_cons (pd_callB (sortD_ (u65 hr)) (by rfl) T.b_sorted (by decide +kernel) (pad_cons (pd_lc (own := [("place", 16), ("sign", 17), ("wish", 19)]) rfl sc.nd (g_tup [16, 17, 19]) (lcw_tup (by decide)) (pid_seq (pd_var 4 (pv 4))) (blkOk_by (N := N_law) (sc := defScope s_law) (by decide +kernel)) (fun _ _ _ _ _ => pg_tup rfl (pgs_cons (pg_name (i := 16) sc.nd rfl (by first | exact Or.inl rfl | exact Or.inr rfl)) (pgs_cons (pg_name (i := 17) sc.nd rfl (by first | exact Or.inl rfl | exact Or.inr rfl)) (pgs_cons (pg_name (i := 19) sc.nd rfl (by first | exact Or.inl rfl | exact Or.inr rfl)) (pgs_nil))))) (fun _ _ _ _ _ => ptsd_nil) (fun _ _ _ _ _ => pd_tup (pad_cons (pd_var 16 (pv 16)) (pad_cons (pd_dget2 (u1 hr) (pd_var 13 (pv 13)) (pd_var 17 (pv 17)) (pd_var 17 (pv 17)) ⟨rfl, rfl, rfl, rfl⟩) (pad_cons (pd_var 19 (pv 19)) (pad_nil)))))) (pad_nil))) (pad_nil)))) (psd_one (psd_ret (pd_cmp (eq_ (u64 hr)) (pd_call (ok__law_many T) (hr.mono (by decide)) tk (by rfl) T.gf__law_many T.f__law_many.F.kp T.f__law_many.b (pad_cons (pd_var 2 (pv 2)) (pad_cons (pd_var 5 (pv 5)) (pad_cons (pd_var 14 (pv 14)) (pad_nil))))) (pd_var 6 (pv 6)) (nomark _))))))))))))))))))))
end
end DL.K17
end
section
set_option maxHeartbeats 0
namespace DL.K17
open PySem PySem.Spec PyProof.Rows L2 DL
theorem all_mk {P : Program} {w : World} {K : PySem.W.Frag} {h : Heap} {mg : Str → Option Value} {fa : Addr} {C_NoMachine : Addr} {C_NoPlace : Addr} {C_NoGoal : Addr} {f_is_whole : Addr} {oc_is_whole kV_is_whole dc_is_whole pm_is_whole cd_is_whole ct_is_whole : Value} {od_is_whole an_is_whole : Option Addr} {sl_is_whole : Array (Option Value)} {f_is_one_of : Addr} {oc_is_one_of kV_is_one_of dc_is_one_of pm_is_one_of cd_is_one_of ct_is_one_of : Value} {od_is_one_of an_is_one_of : Option Addr} {sl_is_one_of : Array (Option Value)} {f_is_rising : Addr} {oc_is_rising kV_is_rising dc_is_rising pm_is_rising cd_is_rising ct_is_rising : Value} {od_is_rising an_is_rising : Option Addr} {sl_is_rising : Array (Option Value)} {f_is_machine : Addr} {oc_is_machine kV_is_machine dc_is_machine pm_is_machine cd_is_machine ct_is_machine : Value} {od_is_machine an_is_machine : Option Addr} {sl_is_machine : Array (Option Value)} {f_need_machine : Addr} {oc_need_machine kV_need_machine dc_need_machine pm_need_machine cd_need_machine ct_need_machine : Value} {od_need_machine an_need_machine : Option Addr} {sl_need_machine : Array (Option Value)} {f_end_of : Addr} {oc_end_of kV_end_of dc_end_of pm_end_of cd_end_of ct_end_of : Value} {od_end_of an_end_of : Option Addr} {sl_end_of : Array (Option Value)} {f_need_tabs : Addr} {oc_need_tabs kV_need_tabs dc_need_tabs pm_need_tabs cd_need_tabs ct_need_tabs : Value} {od_need_tabs an_need_tabs : Option Addr} {sl_need_tabs : Array (Option Value)} {f_is_part : Addr} {oc_is_part kV_is_part dc_is_part pm_is_part cd_is_part ct_is_part : Value} {od_is_part an_is_part : Option Addr} {sl_is_part : Array (Option Value)} {f_need_goal : Addr} {oc_need_goal kV_need_goal dc_need_goal pm_need_goal cd_need_goal ct_need_goal : Value} {od_need_goal an_need_goal : Option Addr} {sl_need_goal : Array (Option Value)} {f_key_for : Addr} {oc_key_for kV_key_for dc_key_for pm_key_for cd_key_for ct_key_for : Value} {od_key_for an_key_for : Option Addr} {sl_key_for : Array (Option Value)} {f_can_strike : Addr} {oc_can_strike kV_can_strike dc_can_strike pm_can_strike cd_can_strike ct_can_strike : Value} {od_can_strike an_can_strike : Option Addr} {sl_can_strike : Array (Option Value)} {f_steps_on : Addr} {oc_steps_on kV_steps_on dc_steps_on pm_steps_on cd_steps_on ct_steps_on : Value} {od_steps_on an_steps_on : Option Addr} {sl_steps_on : Array (Option Value)} {f_way_back : Addr} {oc_way_back kV_way_back dc_way_back pm_way_back cd_way_back ct_way_back : Value} {od_way_back an_way_back : Option Addr} {sl_way_back : Array (Option Value)} {f_fewest : Addr} {oc_fewest kV_fewest dc_fewest pm_fewest cd_fewest ct_fewest : Value} {od_fewest an_fewest : Option Addr} {sl_fewest : Array (Option Value)} {f__law_cell_at : Addr} {oc__law_cell_at kV__law_cell_at dc__law_cell_at pm__law_cell_at cd__law_cell_at ct__law_cell_at : Value} {od__law_cell_at an__law_cell_at : Option Addr} {sl__law_cell_at : Array (Option Value)} {f__law_mixed : Addr} {oc__law_mixed kV__law_mixed dc__law_mixed pm__law_mixed cd__law_mixed ct__law_mixed : Value} {od__law_mixed an__law_mixed : Option Addr} {sl__law_mixed : Array (Option Value)} {f__law_draw : Addr} {oc__law_draw kV__law_draw dc__law_draw pm__law_draw cd__law_draw ct__law_draw : Value} {od__law_draw an__law_draw : Option Addr} {sl__law_draw : Array (Option Value)} {f__law_pick : Addr} {oc__law_pick kV__law_pick dc__law_pick pm__law_pick cd__law_pick ct__law_pick : Value} {od__law_pick an__law_pick : Option Addr} {sl__law_pick : Array (Option Value)} {f__law_machine : Addr} {oc__law_machine kV__law_machine dc__law_machine pm__law_machine cd__law_machine ct__law_machine : Value} {od__law_machine an__law_machine : Option Addr} {sl__law_machine : Array (Option Value)} {f__law_goal : Addr} {oc__law_goal kV__law_goal dc__law_goal pm__law_goal cd__law_goal ct__law_goal : Value} {od__law_goal an__law_goal : Option Addr} {sl__law_goal : Array (Option Value)} {f__law_tabs : Addr} {oc__law_tabs kV__law_tabs dc__law_tabs pm__law_tabs cd__law_tabs ct__law_tabs : Value} {od__law_tabs an__law_tabs : Option Addr} {sl__law_tabs : Array (Option Value)} {f__law_many : Addr} {oc__law_many kV__law_many dc__law_many pm__law_many cd__law_many ct__law_many : Value} {od__law_many an__law_many : Option Addr} {sl__law_many : Array (Option Value)} {f_law : Addr} {oc_law kV_law dc_law pm_law cd_law ct_law : Value} {od_law an_law : Option Addr} {sl_law : Array (Option Value)} {v_LETTERS : Value} {v_GREAT : Value} {v_DEAD : Value} {v_SIGNS : Value} {v_LEAST : Value} {v_WIDEST : Value} {v_TABS : Value} {v_MOST : Value} {v_COLOURS : Addr} {od_COLOURS : Option Addr} {its_COLOURS : Array Value} {n_COLOURS : Nat} {sl_COLOURS : Array (Option Value)} (X : K.In h) (G : h.Ns mainGlobals mg) (hfa : mg "law" = some (.ref fa))
    (ax_NoMachine : PySem.W.nsIn K mainGlobals "NoMachine" = some (some (.ref C_NoMachine)))
    (xx_NoMachine : ExF K mg "NoMachine" C_NoMachine)
    (ax_NoPlace : PySem.W.nsIn K mainGlobals "NoPlace" = some (some (.ref C_NoPlace)))
    (xx_NoPlace : ExF K mg "NoPlace" C_NoPlace)
    (ax_NoGoal : PySem.W.nsIn K mainGlobals "NoGoal" = some (some (.ref C_NoGoal)))
    (xx_NoGoal : ExF K mg "NoGoal" C_NoGoal)
    (a_is_whole : PySem.W.nsIn K mainGlobals "is_whole" = some (some (.ref f_is_whole)))
    (l_is_whole : K.lookup f_is_whole = some ⟨oc_is_whole, od_is_whole, .func (PySem.W.fnOf "is_whole" "is_whole" (defArgs s_is_whole) (defBody s_is_whole) (defScope s_is_whole) .none kV_is_whole dc_is_whole pm_is_whole an_is_whole cd_is_whole ct_is_whole), sl_is_whole⟩)
    (c_is_whole : PySem.W.codeIn K cd_is_whole "is_whole" = true)
    (k_is_whole : PySem.W.keepIn K (.ref f_is_whole) = true)
    (a_is_one_of : PySem.W.nsIn K mainGlobals "is_one_of" = some (some (.ref f_is_one_of)))
    (l_is_one_of : K.lookup f_is_one_of = some ⟨oc_is_one_of, od_is_one_of, .func (PySem.W.fnOf "is_one_of" "is_one_of" (defArgs s_is_one_of) (defBody s_is_one_of) (defScope s_is_one_of) .none kV_is_one_of dc_is_one_of pm_is_one_of an_is_one_of cd_is_one_of ct_is_one_of), sl_is_one_of⟩)
    (c_is_one_of : PySem.W.codeIn K cd_is_one_of "is_one_of" = true)
    (k_is_one_of : PySem.W.keepIn K (.ref f_is_one_of) = true)
    (a_is_rising : PySem.W.nsIn K mainGlobals "is_rising" = some (some (.ref f_is_rising)))
    (l_is_rising : K.lookup f_is_rising = some ⟨oc_is_rising, od_is_rising, .func (PySem.W.fnOf "is_rising" "is_rising" (defArgs s_is_rising) (defBody s_is_rising) (defScope s_is_rising) .none kV_is_rising dc_is_rising pm_is_rising an_is_rising cd_is_rising ct_is_rising), sl_is_rising⟩)
    (c_is_rising : PySem.W.codeIn K cd_is_rising "is_rising" = true)
    (k_is_rising : PySem.W.keepIn K (.ref f_is_rising) = true)
    (a_is_machine : PySem.W.nsIn K mainGlobals "is_machine" = some (some (.ref f_is_machine)))
    (l_is_machine : K.lookup f_is_machine = some ⟨oc_is_machine, od_is_machine, .func (PySem.W.fnOf "is_machine" "is_machine" (defArgs s_is_machine) (defBody s_is_machine) (defScope s_is_machine) .none kV_is_machine dc_is_machine pm_is_machine an_is_machine cd_is_machine ct_is_machine), sl_is_machine⟩)
    (c_is_machine : PySem.W.codeIn K cd_is_machine "is_machine" = true)
    (k_is_machine : PySem.W.keepIn K (.ref f_is_machine) = true)
    (a_need_machine : PySem.W.nsIn K mainGlobals "need_machine" = some (some (.ref f_need_machine)))
    (l_need_machine : K.lookup f_need_machine = some ⟨oc_need_machine, od_need_machine, .func (PySem.W.fnOf "need_machine" "need_machine" (defArgs s_need_machine) (defBody s_need_machine) (defScope s_need_machine) .none kV_need_machine dc_need_machine pm_need_machine an_need_machine cd_need_machine ct_need_machine), sl_need_machine⟩)
    (c_need_machine : PySem.W.codeIn K cd_need_machine "need_machine" = true)
    (k_need_machine : PySem.W.keepIn K (.ref f_need_machine) = true)
    (a_end_of : PySem.W.nsIn K mainGlobals "end_of" = some (some (.ref f_end_of)))
    (l_end_of : K.lookup f_end_of = some ⟨oc_end_of, od_end_of, .func (PySem.W.fnOf "end_of" "end_of" (defArgs s_end_of) (defBody s_end_of) (defScope s_end_of) .none kV_end_of dc_end_of pm_end_of an_end_of cd_end_of ct_end_of), sl_end_of⟩)
    (c_end_of : PySem.W.codeIn K cd_end_of "end_of" = true)
    (k_end_of : PySem.W.keepIn K (.ref f_end_of) = true)
    (a_need_tabs : PySem.W.nsIn K mainGlobals "need_tabs" = some (some (.ref f_need_tabs)))
    (l_need_tabs : K.lookup f_need_tabs = some ⟨oc_need_tabs, od_need_tabs, .func (PySem.W.fnOf "need_tabs" "need_tabs" (defArgs s_need_tabs) (defBody s_need_tabs) (defScope s_need_tabs) .none kV_need_tabs dc_need_tabs pm_need_tabs an_need_tabs cd_need_tabs ct_need_tabs), sl_need_tabs⟩)
    (c_need_tabs : PySem.W.codeIn K cd_need_tabs "need_tabs" = true)
    (k_need_tabs : PySem.W.keepIn K (.ref f_need_tabs) = true)
    (a_is_part : PySem.W.nsIn K mainGlobals "is_part" = some (some (.ref f_is_part)))
    (l_is_part : K.lookup f_is_part = some ⟨oc_is_part, od_is_part, .func (PySem.W.fnOf "is_part" "is_part" (defArgs s_is_part) (defBody s_is_part) (defScope s_is_part) .none kV_is_part dc_is_part pm_is_part an_is_part cd_is_part ct_is_part), sl_is_part⟩)
    (c_is_part : PySem.W.codeIn K cd_is_part "is_part" = true)
    (k_is_part : PySem.W.keepIn K (.ref f_is_part) = true)
    (a_need_goal : PySem.W.nsIn K mainGlobals "need_goal" = some (some (.ref f_need_goal)))
    (l_need_goal : K.lookup f_need_goal = some ⟨oc_need_goal, od_need_goal, .func (PySem.W.fnOf "need_goal" "need_goal" (defArgs s_need_goal) (defBody s_need_goal) (defScope s_need_goal) .none kV_need_goal dc_need_goal pm_need_goal an_need_goal cd_need_goal ct_need_goal), sl_need_goal⟩)
    (c_need_goal : PySem.W.codeIn K cd_need_goal "need_goal" = true)
    (k_need_goal : PySem.W.keepIn K (.ref f_need_goal) = true)
    (a_key_for : PySem.W.nsIn K mainGlobals "key_for" = some (some (.ref f_key_for)))
    (l_key_for : K.lookup f_key_for = some ⟨oc_key_for, od_key_for, .func (PySem.W.fnOf "key_for" "key_for" (defArgs s_key_for) (defBody s_key_for) (defScope s_key_for) .none kV_key_for dc_key_for pm_key_for an_key_for cd_key_for ct_key_for), sl_key_for⟩)
    (c_key_for : PySem.W.codeIn K cd_key_for "key_for" = true)
    (k_key_for : PySem.W.keepIn K (.ref f_key_for) = true)
    (a_can_strike : PySem.W.nsIn K mainGlobals "can_strike" = some (some (.ref f_can_strike)))
    (l_can_strike : K.lookup f_can_strike = some ⟨oc_can_strike, od_can_strike, .func (PySem.W.fnOf "can_strike" "can_strike" (defArgs s_can_strike) (defBody s_can_strike) (defScope s_can_strike) .none kV_can_strike dc_can_strike pm_can_strike an_can_strike cd_can_strike ct_can_strike), sl_can_strike⟩)
    (c_can_strike : PySem.W.codeIn K cd_can_strike "can_strike" = true)
    (k_can_strike : PySem.W.keepIn K (.ref f_can_strike) = true)
    (a_steps_on : PySem.W.nsIn K mainGlobals "steps_on" = some (some (.ref f_steps_on)))
    (l_steps_on : K.lookup f_steps_on = some ⟨oc_steps_on, od_steps_on, .func (PySem.W.fnOf "steps_on" "steps_on" (defArgs s_steps_on) (defBody s_steps_on) (defScope s_steps_on) .none kV_steps_on dc_steps_on pm_steps_on an_steps_on cd_steps_on ct_steps_on), sl_steps_on⟩)
    (c_steps_on : PySem.W.codeIn K cd_steps_on "steps_on" = true)
    (k_steps_on : PySem.W.keepIn K (.ref f_steps_on) = true)
    (a_way_back : PySem.W.nsIn K mainGlobals "way_back" = some (some (.ref f_way_back)))
    (l_way_back : K.lookup f_way_back = some ⟨oc_way_back, od_way_back, .func (PySem.W.fnOf "way_back" "way_back" (defArgs s_way_back) (defBody s_way_back) (defScope s_way_back) .none kV_way_back dc_way_back pm_way_back an_way_back cd_way_back ct_way_back), sl_way_back⟩)
    (c_way_back : PySem.W.codeIn K cd_way_back "way_back" = true)
    (k_way_back : PySem.W.keepIn K (.ref f_way_back) = true)
    (a_fewest : PySem.W.nsIn K mainGlobals "fewest" = some (some (.ref f_fewest)))
    (l_fewest : K.lookup f_fewest = some ⟨oc_fewest, od_fewest, .func (PySem.W.fnOf "fewest" "fewest" (defArgs s_fewest) (defBody s_fewest) (defScope s_fewest) .none kV_fewest dc_fewest pm_fewest an_fewest cd_fewest ct_fewest), sl_fewest⟩)
    (c_fewest : PySem.W.codeIn K cd_fewest "fewest" = true)
    (k_fewest : PySem.W.keepIn K (.ref f_fewest) = true)
    (a__law_cell_at : PySem.W.nsIn K mainGlobals "_law_cell_at" = some (some (.ref f__law_cell_at)))
    (l__law_cell_at : K.lookup f__law_cell_at = some ⟨oc__law_cell_at, od__law_cell_at, .func (PySem.W.fnOf "_law_cell_at" "_law_cell_at" (defArgs s__law_cell_at) (defBody s__law_cell_at) (defScope s__law_cell_at) .none kV__law_cell_at dc__law_cell_at pm__law_cell_at an__law_cell_at cd__law_cell_at ct__law_cell_at), sl__law_cell_at⟩)
    (c__law_cell_at : PySem.W.codeIn K cd__law_cell_at "_law_cell_at" = true)
    (k__law_cell_at : PySem.W.keepIn K (.ref f__law_cell_at) = true)
    (a__law_mixed : PySem.W.nsIn K mainGlobals "_law_mixed" = some (some (.ref f__law_mixed)))
    (l__law_mixed : K.lookup f__law_mixed = some ⟨oc__law_mixed, od__law_mixed, .func (PySem.W.fnOf "_law_mixed" "_law_mixed" (defArgs s__law_mixed) (defBody s__law_mixed) (defScope s__law_mixed) .none kV__law_mixed dc__law_mixed pm__law_mixed an__law_mixed cd__law_mixed ct__law_mixed), sl__law_mixed⟩)
    (c__law_mixed : PySem.W.codeIn K cd__law_mixed "_law_mixed" = true)
    (k__law_mixed : PySem.W.keepIn K (.ref f__law_mixed) = true)
    (a__law_draw : PySem.W.nsIn K mainGlobals "_law_draw" = some (some (.ref f__law_draw)))
    (l__law_draw : K.lookup f__law_draw = some ⟨oc__law_draw, od__law_draw, .func (PySem.W.fnOf "_law_draw" "_law_draw" (defArgs s__law_draw) (defBody s__law_draw) (defScope s__law_draw) .none kV__law_draw dc__law_draw pm__law_draw an__law_draw cd__law_draw ct__law_draw), sl__law_draw⟩)
    (c__law_draw : PySem.W.codeIn K cd__law_draw "_law_draw" = true)
    (k__law_draw : PySem.W.keepIn K (.ref f__law_draw) = true)
    (a__law_pick : PySem.W.nsIn K mainGlobals "_law_pick" = some (some (.ref f__law_pick)))
    (l__law_pick : K.lookup f__law_pick = some ⟨oc__law_pick, od__law_pick, .func (PySem.W.fnOf "_law_pick" "_law_pick" (defArgs s__law_pick) (defBody s__law_pick) (defScope s__law_pick) .none kV__law_pick dc__law_pick pm__law_pick an__law_pick cd__law_pick ct__law_pick), sl__law_pick⟩)
    (c__law_pick : PySem.W.codeIn K cd__law_pick "_law_pick" = true)
    (k__law_pick : PySem.W.keepIn K (.ref f__law_pick) = true)
    (a__law_machine : PySem.W.nsIn K mainGlobals "_law_machine" = some (some (.ref f__law_machine)))
    (l__law_machine : K.lookup f__law_machine = some ⟨oc__law_machine, od__law_machine, .func (PySem.W.fnOf "_law_machine" "_law_machine" (defArgs s__law_machine) (defBody s__law_machine) (defScope s__law_machine) .none kV__law_machine dc__law_machine pm__law_machine an__law_machine cd__law_machine ct__law_machine), sl__law_machine⟩)
    (c__law_machine : PySem.W.codeIn K cd__law_machine "_law_machine" = true)
    (k__law_machine : PySem.W.keepIn K (.ref f__law_machine) = true)
    (a__law_goal : PySem.W.nsIn K mainGlobals "_law_goal" = some (some (.ref f__law_goal)))
    (l__law_goal : K.lookup f__law_goal = some ⟨oc__law_goal, od__law_goal, .func (PySem.W.fnOf "_law_goal" "_law_goal" (defArgs s__law_goal) (defBody s__law_goal) (defScope s__law_goal) .none kV__law_goal dc__law_goal pm__law_goal an__law_goal cd__law_goal ct__law_goal), sl__law_goal⟩)
    (c__law_goal : PySem.W.codeIn K cd__law_goal "_law_goal" = true)
    (k__law_goal : PySem.W.keepIn K (.ref f__law_goal) = true)
    (a__law_tabs : PySem.W.nsIn K mainGlobals "_law_tabs" = some (some (.ref f__law_tabs)))
    (l__law_tabs : K.lookup f__law_tabs = some ⟨oc__law_tabs, od__law_tabs, .func (PySem.W.fnOf "_law_tabs" "_law_tabs" (defArgs s__law_tabs) (defBody s__law_tabs) (defScope s__law_tabs) .none kV__law_tabs dc__law_tabs pm__law_tabs an__law_tabs cd__law_tabs ct__law_tabs), sl__law_tabs⟩)
    (c__law_tabs : PySem.W.codeIn K cd__law_tabs "_law_tabs" = true)
    (k__law_tabs : PySem.W.keepIn K (.ref f__law_tabs) = true)
    (a__law_many : PySem.W.nsIn K mainGlobals "_law_many" = some (some (.ref f__law_many)))
    (l__law_many : K.lookup f__law_many = some ⟨oc__law_many, od__law_many, .func (PySem.W.fnOf "_law_many" "_law_many" (defArgs s__law_many) (defBody s__law_many) (defScope s__law_many) .none kV__law_many dc__law_many pm__law_many an__law_many cd__law_many ct__law_many), sl__law_many⟩)
    (c__law_many : PySem.W.codeIn K cd__law_many "_law_many" = true)
    (k__law_many : PySem.W.keepIn K (.ref f__law_many) = true)
    (a_law : PySem.W.nsIn K mainGlobals "law" = some (some (.ref f_law)))
    (l_law : K.lookup f_law = some ⟨oc_law, od_law, .func (PySem.W.fnOf "law" "law" (defArgs s_law) (defBody s_law) (defScope s_law) .none kV_law dc_law pm_law an_law cd_law ct_law), sl_law⟩)
    (c_law : PySem.W.codeIn K cd_law "law" = true)
    (k_law : PySem.W.keepIn K (.ref f_law) = true)
    (g_LETTERS : PySem.W.nsIn K mainGlobals "LETTERS" = some (some v_LETTERS))
    (ge_LETTERS : ∃ t, v_LETTERS = .str G_LETTERS t)
    (g_GREAT : PySem.W.nsIn K mainGlobals "GREAT" = some (some v_GREAT))
    (ge_GREAT : ∃ t, v_GREAT = .str G_GREAT t)
    (g_DEAD : PySem.W.nsIn K mainGlobals "DEAD" = some (some v_DEAD))
    (ge_DEAD : ∃ t, v_DEAD = .str G_DEAD t)
    (g_SIGNS : PySem.W.nsIn K mainGlobals "SIGNS" = some (some v_SIGNS))
    (ge_SIGNS : ∃ t, v_SIGNS = .str G_SIGNS t)
    (g_LEAST : PySem.W.nsIn K mainGlobals "LEAST" = some (some v_LEAST))
    (ge_LEAST : ∃ t, v_LEAST = .int 8 t)
    (g_WIDEST : PySem.W.nsIn K mainGlobals "WIDEST" = some (some v_WIDEST))
    (ge_WIDEST : ∃ t, v_WIDEST = .int 40 t)
    (g_TABS : PySem.W.nsIn K mainGlobals "TABS" = some (some v_TABS))
    (ge_TABS : ∃ t, v_TABS = .int 6 t)
    (g_MOST : PySem.W.nsIn K mainGlobals "MOST" = some (some v_MOST))
    (ge_MOST : ∃ t, v_MOST = .int 5 t)
    (g_COLOURS : PySem.W.nsIn K mainGlobals "COLOURS" = some (some (.ref v_COLOURS)))
    (gl_COLOURS : K.lookup v_COLOURS = some ⟨.type "tuple", od_COLOURS, .seq its_COLOURS n_COLOURS, sl_COLOURS⟩)
    (gv_COLOURS : Vals (["black", "red"].map fun s => V.str (PySem.Str.ofString s)) its_COLOURS.toList)
    (z_all : PySem.W.nsIn K mainGlobals "all" = some none)
    (z_bool : PySem.W.nsIn K mainGlobals "bool" = some none)
    (z_enumerate : PySem.W.nsIn K mainGlobals "enumerate" = some none)
    (z_int : PySem.W.nsIn K mainGlobals "int" = some none)
    (z_isinstance : PySem.W.nsIn K mainGlobals "isinstance" = some none)
    (z_len : PySem.W.nsIn K mainGlobals "len" = some none)
    (z_min : PySem.W.nsIn K mainGlobals "min" = some none)
    (z_range : PySem.W.nsIn K mainGlobals "range" = some none)
    (z_set : PySem.W.nsIn K mainGlobals "set" = some none)
    (z_sorted : PySem.W.nsIn K mainGlobals "sorted" = some none)
    (z_str : PySem.W.nsIn K mainGlobals "str" = some none)
    (z_tuple : PySem.W.nsIn K mainGlobals "tuple" = some none)
    (z_zip : PySem.W.nsIn K mainGlobals "zip" = some none)
    (nd : ([C_NoMachine, 1000000002, 1000000003, C_NoPlace, C_NoGoal, 1000000006, 1000000007, 1000000008, 1000000009, 1000000010] : List Addr).Nodup) :
    ∃ fd : FuncData, (∀ (s : Shared) (v : Value), BindsTo s fd ⟨[v], []⟩ [("script", v)]) ∧ ∀ base : Heap, K.In base → base.Ns mainGlobals mg → FnOk P w K mg base (L2N.CX P w) 6 fa fd ["script"] (spT K) := by
  have e : f_law = fa := by have e := hfa.symm.trans (PySem.W.mg_of X G a_law); cases e; rfl
  subst e
  have F_is_whole := fun_mk (st := s_is_whole) l_is_whole c_is_whole k_is_whole
  have F_is_one_of := fun_mk (st := s_is_one_of) l_is_one_of c_is_one_of k_is_one_of
  have F_is_rising := fun_mk (st := s_is_rising) l_is_rising c_is_rising k_is_rising
  have F_is_machine := fun_mk (st := s_is_machine) l_is_machine c_is_machine k_is_machine
  have F_need_machine := fun_mk (st := s_need_machine) l_need_machine c_need_machine k_need_machine
  have F_end_of := fun_mk (st := s_end_of) l_end_of c_end_of k_end_of
  have F_need_tabs := fun_mk (st := s_need_tabs) l_need_tabs c_need_tabs k_need_tabs
  have F_is_part := fun_mk (st := s_is_part) l_is_part c_is_part k_is_part
  have F_need_goal := fun_mk (st := s_need_goal) l_need_goal c_need_goal k_need_goal
  have F_key_for := fun_mk (st := s_key_for) l_key_for c_key_for k_key_for
  have F_can_strike := fun_mk (st := s_can_strike) l_can_strike c_can_strike k_can_strike
  have F_steps_on := fun_mk (st := s_steps_on) l_steps_on c_steps_on k_steps_on
  have F_way_back := fun_mk (st := s_way_back) l_way_back c_way_back k_way_back
  have F_fewest := fun_mk (st := s_fewest) l_fewest c_fewest k_fewest
  have F__law_cell_at := fun_mk (st := s__law_cell_at) l__law_cell_at c__law_cell_at k__law_cell_at
  have F__law_mixed := fun_mk (st := s__law_mixed) l__law_mixed c__law_mixed k__law_mixed
  have F__law_draw := fun_mk (st := s__law_draw) l__law_draw c__law_draw k__law_draw
  have F__law_pick := fun_mk (st := s__law_pick) l__law_pick c__law_pick k__law_pick
  have F__law_machine := fun_mk (st := s__law_machine) l__law_machine c__law_machine k__law_machine
  have F__law_goal := fun_mk (st := s__law_goal) l__law_goal c__law_goal k__law_goal
  have F__law_tabs := fun_mk (st := s__law_tabs) l__law_tabs c__law_tabs k__law_tabs
  have F__law_many := fun_mk (st := s__law_many) l__law_many c__law_many k__law_many
  have F_law := fun_mk (st := s_law) l_law c_law k_law
  let T : Txt K mg ({ xInkError := 1000000000, xNoMachine := C_NoMachine, xNoKeys := 1000000002, xNoKey := 1000000003, xNoPlace := C_NoPlace, xNoGoal := C_NoGoal, xNoStrikes := 1000000006, xNoText := 1000000007, xNoNumbers := 1000000008, xTooWide := 1000000009, xNothing := 1000000010, cMachine := 0, cTypist := 0, cHand := 0, fn := fun s => 0 } : Ad) := {
    ad := ⟨⟨nd⟩⟩,
    f_is_whole := ⟨f_is_whole, _, F_is_whole, F_is_whole.binds (ps := ["thing", "low", "most"]) fun _ _ _ _ _ _ us hl => match us, hl with | [_, _, _], _ => rfl⟩,
    gf_is_whole := PySem.W.mg_of X G a_is_whole,
    f_is_one_of := ⟨f_is_one_of, _, F_is_one_of, F_is_one_of.binds (ps := ["thing", "signs"]) fun _ _ _ _ _ _ us hl => match us, hl with | [_, _], _ => rfl⟩,
    gf_is_one_of := PySem.W.mg_of X G a_is_one_of,
    f_is_rising := ⟨f_is_rising, _, F_is_rising, F_is_rising.binds (ps := ["thing"]) fun _ _ _ _ _ _ us hl => match us, hl with | [_], _ => rfl⟩,
    gf_is_rising := PySem.W.mg_of X G a_is_rising,
    f_is_machine := ⟨f_is_machine, _, F_is_machine, F_is_machine.binds (ps := ["thing"]) fun _ _ _ _ _ _ us hl => match us, hl with | [_], _ => rfl⟩,
    gf_is_machine := PySem.W.mg_of X G a_is_machine,
    f_need_machine := ⟨f_need_machine, _, F_need_machine, F_need_machine.binds (ps := ["thing"]) fun _ _ _ _ _ _ us hl => match us, hl with | [_], _ => rfl⟩,
    gf_need_machine := PySem.W.mg_of X G a_need_machine,
    f_end_of := ⟨f_end_of, _, F_end_of, F_end_of.binds (ps := ["machine"]) fun _ _ _ _ _ _ us hl => match us, hl with | [_], _ => rfl⟩,
    gf_end_of := PySem.W.mg_of X G a_end_of,
    f_need_tabs := ⟨f_need_tabs, _, F_need_tabs, F_need_tabs.binds (ps := ["machine", "thing"]) fun _ _ _ _ _ _ us hl => match us, hl with | [_, _], _ => rfl⟩,
    gf_need_tabs := PySem.W.mg_of X G a_need_tabs,
    f_is_part := ⟨f_is_part, _, F_is_part, F_is_part.binds (ps := ["machine", "thing"]) fun _ _ _ _ _ _ us hl => match us, hl with | [_, _], _ => rfl⟩,
    gf_is_part := PySem.W.mg_of X G a_is_part,
    f_need_goal := ⟨f_need_goal, _, F_need_goal, F_need_goal.binds (ps := ["machine", "thing"]) fun _ _ _ _ _ _ us hl => match us, hl with | [_, _], _ => rfl⟩,
    gf_need_goal := PySem.W.mg_of X G a_need_goal,
    f_key_for := ⟨f_key_for, _, F_key_for, F_key_for.binds (ps := ["sign"]) fun _ _ _ _ _ _ us hl => match us, hl with | [_], _ => rfl⟩,
    gf_key_for := PySem.W.mg_of X G a_key_for,
    f_can_strike := ⟨f_can_strike, _, F_can_strike, F_can_strike.binds (ps := ["sign", "caps"]) fun _ _ _ _ _ _ us hl => match us, hl with | [_, _], _ => rfl⟩,
    gf_can_strike := PySem.W.mg_of X G a_can_strike,
    f_steps_on := ⟨f_steps_on, _, F_steps_on, F_steps_on.binds (ps := ["machine", "tabs", "stand", "goal"]) fun _ _ _ _ _ _ us hl => match us, hl with | [_, _, _, _], _ => rfl⟩,
    gf_steps_on := PySem.W.mg_of X G a_steps_on,
    f_way_back := ⟨f_way_back, _, F_way_back, F_way_back.binds (ps := ["found", "stand"]) fun _ _ _ _ _ _ us hl => match us, hl with | [_, _], _ => rfl⟩,
    gf_way_back := PySem.W.mg_of X G a_way_back,
    f_fewest := ⟨f_fewest, _, F_fewest, F_fewest.binds (ps := ["machine", "tabs", "goal"]) fun _ _ _ _ _ _ us hl => match us, hl with | [_, _, _], _ => rfl⟩,
    gf_fewest := PySem.W.mg_of X G a_fewest,
    f__law_cell_at := ⟨f__law_cell_at, _, F__law_cell_at, F__law_cell_at.binds (ps := ["script", "k"]) fun _ _ _ _ _ _ us hl => match us, hl with | [_, _], _ => rfl⟩,
    gf__law_cell_at := PySem.W.mg_of X G a__law_cell_at,
    f__law_mixed := ⟨f__law_mixed, _, F__law_mixed, F__law_mixed.binds (ps := ["script", "k", "many"]) fun _ _ _ _ _ _ us hl => match us, hl with | [_, _, _], _ => rfl⟩,
    gf__law_mixed := PySem.W.mg_of X G a__law_mixed,
    f__law_draw := ⟨f__law_draw, _, F__law_draw, F__law_draw.binds (ps := ["script", "town", "many"]) fun _ _ _ _ _ _ us hl => match us, hl with | [_, _, _], _ => rfl⟩,
    gf__law_draw := PySem.W.mg_of X G a__law_draw,
    f__law_pick := ⟨f__law_pick, _, F__law_pick, F__law_pick.binds (ps := ["script", "town", "some"]) fun _ _ _ _ _ _ us hl => match us, hl with | [_, _, _], _ => rfl⟩,
    gf__law_pick := PySem.W.mg_of X G a__law_pick,
    f__law_machine := ⟨f__law_machine, _, F__law_machine, F__law_machine.binds (ps := ["script", "town"]) fun _ _ _ _ _ _ us hl => match us, hl with | [_, _], _ => rfl⟩,
    gf__law_machine := PySem.W.mg_of X G a__law_machine,
    f__law_goal := ⟨f__law_goal, _, F__law_goal, F__law_goal.binds (ps := ["script", "town", "machine", "most"]) fun _ _ _ _ _ _ us hl => match us, hl with | [_, _, _, _], _ => rfl⟩,
    gf__law_goal := PySem.W.mg_of X G a__law_goal,
    f__law_tabs := ⟨f__law_tabs, _, F__law_tabs, F__law_tabs.binds (ps := ["script", "town", "machine", "most"]) fun _ _ _ _ _ _ us hl => match us, hl with | [_, _, _, _], _ => rfl⟩,
    gf__law_tabs := PySem.W.mg_of X G a__law_tabs,
    f__law_many := ⟨f__law_many, _, F__law_many, F__law_many.binds (ps := ["machine", "tabs", "goal"]) fun _ _ _ _ _ _ us hl => match us, hl with | [_, _, _], _ => rfl⟩,
    gf__law_many := PySem.W.mg_of X G a__law_many,
    f_law := ⟨f_law, _, F_law, F_law.binds (ps := ["script"]) fun _ _ _ _ _ _ us hl => match us, hl with | [_], _ => rfl⟩,
    gf_law := PySem.W.mg_of X G a_law,
    x_NoMachine := xx_NoMachine,
    x_NoPlace := xx_NoPlace,
    x_NoGoal := xx_NoGoal,
    g_LETTERS := by obtain ⟨t, e⟩ := ge_LETTERS; exact ⟨t, by rw [PySem.W.mg_of X G g_LETTERS, e]⟩,
    g_GREAT := by obtain ⟨t, e⟩ := ge_GREAT; exact ⟨t, by rw [PySem.W.mg_of X G g_GREAT, e]⟩,
    g_DEAD := by obtain ⟨t, e⟩ := ge_DEAD; exact ⟨t, by rw [PySem.W.mg_of X G g_DEAD, e]⟩,
    g_SIGNS := by obtain ⟨t, e⟩ := ge_SIGNS; exact ⟨t, by rw [PySem.W.mg_of X G g_SIGNS, e]⟩,
    g_LEAST := by obtain ⟨t, e⟩ := ge_LEAST; exact ⟨t, by rw [PySem.W.mg_of X G g_LEAST, e]⟩,
    g_WIDEST := by obtain ⟨t, e⟩ := ge_WIDEST; exact ⟨t, by rw [PySem.W.mg_of X G g_WIDEST, e]⟩,
    g_TABS := by obtain ⟨t, e⟩ := ge_TABS; exact ⟨t, by rw [PySem.W.mg_of X G g_TABS, e]⟩,
    g_MOST := by obtain ⟨t, e⟩ := ge_MOST; exact ⟨t, by rw [PySem.W.mg_of X G g_MOST, e]⟩,
    g_COLOURS := ⟨v_COLOURS, PySem.W.mg_of X G g_COLOURS, fun B => .tup (.inr ⟨_, its_COLOURS, n_COLOURS, gl_COLOURS, rfl, rfl, by rw [← Array.length_toList, ← gv_COLOURS.length, sizeLine_eq]; decide, gv_COLOURS⟩) (dp_words _)⟩,
    b_all := PySem.W.mg_none_of X G z_all,
    b_bool := PySem.W.mg_none_of X G z_bool,
    b_enumerate := PySem.W.mg_none_of X G z_enumerate,
    b_int := PySem.W.mg_none_of X G z_int,
    b_isinstance := PySem.W.mg_none_of X G z_isinstance,
    b_len := PySem.W.mg_none_of X G z_len,
    b_min := PySem.W.mg_none_of X G z_min,
    b_range := PySem.W.mg_none_of X G z_range,
    b_set := PySem.W.mg_none_of X G z_set,
    b_sorted := PySem.W.mg_none_of X G z_sorted,
    b_str := PySem.W.mg_none_of X G z_str,
    b_tuple := PySem.W.mg_none_of X G z_tuple,
    b_zip := PySem.W.mg_none_of X G z_zip }
  exact ⟨T.f_law.fd, fun s v => .of_eq rfl, fun base _ _ => (ok_law T).imp fun _ _ _ _ => sp_phL⟩
end DL.K17
open PySem PySem.W PyProof.Rows DL in
set_option maxHeartbeats 0 in
theorem PySem.Challenge.cw_inkcarriage_k17_whole_more_tabs_holds : PySem.Challenge.rw_inkcarriage_k17_whole_more_tabs.Holds := by
  w_on; o_law; k_head; (case hw => w_witness2)
  k_fill
  refine L2.walk_of (l := PySem.Challenge.rw_inkcarriage_k17_whole_more_tabs) (n := 63) (k := 6) (x := "script") (CX := fun w => L2N.CX (PySem.Challenge.rw_inkcarriage_k17_whole_more_tabs).prog w) (sp := fun w => spT _) rfl (by decide) rfl ⟨rfl, by decide, by decide⟩ (fun w h Y => PySem.W.kIn_of Y) ?F (fun _ _ a ns hl _ hS => ⟨a, ns, rfl, hS, hl, fun _ => rfl⟩) (fun _ _ _ _ _ h => cx_no h)
  case F =>
    intro w mg fa h KX G hmg
    refine' DL.K17.all_mk KX G hmg ?ax_NoMachine ?xx_NoMachine ?ax_NoPlace ?xx_NoPlace ?ax_NoGoal ?xx_NoGoal ?a_is_whole ?l_is_whole ?c_is_whole ?k_is_whole ?a_is_one_of ?l_is_one_of ?c_is_one_of ?k_is_one_of ?a_is_rising ?l_is_rising ?c_is_rising ?k_is_rising ?a_is_machine ?l_is_machine ?c_is_machine ?k_is_machine ?a_need_machine ?l_need_machine ?c_need_machine ?k_need_machine ?a_end_of ?l_end_of ?c_end_of ?k_end_of ?a_need_tabs ?l_need_tabs ?c_need_tabs ?k_need_tabs ?a_is_part ?l_is_part ?c_is_part ?k_is_part ?a_need_goal ?l_need_goal ?c_need_goal ?k_need_goal ?a_key_for ?l_key_for ?c_key_for ?k_key_for ?a_can_strike ?l_can_strike ?c_can_strike ?k_can_strike ?a_steps_on ?l_steps_on ?c_steps_on ?k_steps_on ?a_way_back ?l_way_back ?c_way_back ?k_way_back ?a_fewest ?l_fewest ?c_fewest ?k_fewest ?a__law_cell_at ?l__law_cell_at ?c__law_cell_at ?k__law_cell_at ?a__law_mixed ?l__law_mixed ?c__law_mixed ?k__law_mixed ?a__law_draw ?l__law_draw ?c__law_draw ?k__law_draw ?a__law_pick ?l__law_pick ?c__law_pick ?k__law_pick ?a__law_machine ?l__law_machine ?c__law_machine ?k__law_machine ?a__law_goal ?l__law_goal ?c__law_goal ?k__law_goal ?a__law_tabs ?l__law_tabs ?c__law_tabs ?k__law_tabs ?a__law_many ?l__law_many ?c__law_many ?k__law_many ?a_law ?l_law ?c_law ?k_law ?g_LETTERS ?ge_LETTERS ?g_GREAT ?ge_GREAT ?g_DEAD ?ge_DEAD ?g_SIGNS ?ge_SIGNS ?g_LEAST ?ge_LEAST ?g_WIDEST ?ge_WIDEST ?g_TABS ?ge_TABS ?g_MOST ?ge_MOST ?g_COLOURS ?gl_COLOURS ?gv_COLOURS ?z_all ?z_bool ?z_enumerate ?z_int ?z_isinstance ?z_len ?z_min ?z_range ?z_set ?z_sorted ?z_str ?z_tuple ?z_zip ?nd
    (case ax_NoMachine => k_is)
    (case xx_NoMachine => exact ⟨PySem.W.mg_of KX G (by k_is), (by k_exc), (by k_is), (by k_is), (by k_is)⟩)
    (case ax_NoPlace => k_is)
    (case xx_NoPlace => exact ⟨PySem.W.mg_of KX G (by k_is), (by k_exc), (by k_is), (by k_is), (by k_is)⟩)
    (case ax_NoGoal => k_is)
    (case xx_NoGoal => exact ⟨PySem.W.mg_of KX G (by k_is), (by k_exc), (by k_is), (by k_is), (by k_is)⟩)
    (case a_is_whole => k_is)
    (case l_is_whole => k_is)
    (case c_is_whole => k_is)
    (case k_is_whole => k_is)
    (case a_is_one_of => k_is)
    (case l_is_one_of => k_is)
    (case c_is_one_of => k_is)
    (case k_is_one_of => k_is)
    (case a_is_rising => k_is)
    (case l_is_rising => k_is)
    (case c_is_rising => k_is)
    (case k_is_rising => k_is)
    (case a_is_machine => k_is)
    (case l_is_machine => k_is)
    (case c_is_machine => k_is)
    (case k_is_machine => k_is)
    (case a_need_machine => k_is)
    (case l_need_machine => k_is)
    (case c_need_machine => k_is)
    (case k_need_machine => k_is)
    (case a_end_of => k_is)
    (case l_end_of => k_is)
    (case c_end_of => k_is)
    (case k_end_of => k_is)
    (case a_need_tabs => k_is)
    (case l_need_tabs => k_is)
    (case c_need_tabs => k_is)
    (case k_need_tabs => k_is)
    (case a_is_part => k_is)
    (case l_is_part => k_is)
    (case c_is_part => k_is)
    (case k_is_part => k_is)
    (case a_need_goal => k_is)
    (case l_need_goal => k_is)
    (case c_need_goal => k_is)
    (case k_need_goal => k_is)
    (case a_key_for => k_is)
    (case l_key_for => k_is)
    (case c_key_for => k_is)
    (case k_key_for => k_is)
    (case a_can_strike => k_is)
    (case l_can_strike => k_is)
    (case c_can_strike => k_is)
    (case k_can_strike => k_is)
    (case a_steps_on => k_is)
    (case l_steps_on => k_is)
    (case c_steps_on => k_is)
    (case k_steps_on => k_is)
    (case a_way_back => k_is)
    (case l_way_back => k_is)
    (case c_way_back => k_is)
    (case k_way_back => k_is)
    (case a_fewest => k_is)
    (case l_fewest => k_is)
    (case c_fewest => k_is)
    (case k_fewest => k_is)
    (case a__law_cell_at => k_is)
    (case l__law_cell_at => k_is)
    (case c__law_cell_at => k_is)
    (case k__law_cell_at => k_is)
    (case a__law_mixed => k_is)
    (case l__law_mixed => k_is)
    (case c__law_mixed => k_is)
    (case k__law_mixed => k_is)
    (case a__law_draw => k_is)
    (case l__law_draw => k_is)
    (case c__law_draw => k_is)
    (case k__law_draw => k_is)
    (case a__law_pick => k_is)
    (case l__law_pick => k_is)
    (case c__law_pick => k_is)
    (case k__law_pick => k_is)
    (case a__law_machine => k_is)
    (case l__law_machine => k_is)
    (case c__law_machine => k_is)
    (case k__law_machine => k_is)
    (case a__law_goal => k_is)
    (case l__law_goal => k_is)
    (case c__law_goal => k_is)
    (case k__law_goal => k_is)
    (case a__law_tabs => k_is)
    (case l__law_tabs => k_is)
    (case c__law_tabs => k_is)
    (case k__law_tabs => k_is)
    (case a__law_many => k_is)
    (case l__law_many => k_is)
    (case c__law_many => k_is)
    (case k__law_many => k_is)
    (case a_law => k_is)
    (case l_law => k_is)
    (case c_law => k_is)
    (case k_law => k_is)
    (case g_LETTERS => k_is)
    (case ge_LETTERS => exact ⟨_, rfl⟩)
    (case g_GREAT => k_is)
    (case ge_GREAT => exact ⟨_, rfl⟩)
    (case g_DEAD => k_is)
    (case ge_DEAD => exact ⟨_, rfl⟩)
    (case g_SIGNS => k_is)
    (case ge_SIGNS => exact ⟨_, rfl⟩)
    (case g_LEAST => k_is)
    (case ge_LEAST => exact ⟨_, rfl⟩)
    (case g_WIDEST => k_is)
    (case ge_WIDEST => exact ⟨_, rfl⟩)
    (case g_TABS => k_is)
    (case ge_TABS => exact ⟨_, rfl⟩)
    (case g_MOST => k_is)
    (case ge_MOST => exact ⟨_, rfl⟩)
    (case g_COLOURS => k_is)
    (case gl_COLOURS => k_is)
    (case gv_COLOURS => exact .cons ⟨_, rfl⟩ (.cons ⟨_, rfl⟩ (.nil)))
    (case z_all => k_is)
    (case z_bool => k_is)
    (case z_enumerate => k_is)
    (case z_int => k_is)
    (case z_isinstance => k_is)
    (case z_len => k_is)
    (case z_min => k_is)
    (case z_range => k_is)
    (case z_set => k_is)
    (case z_sorted => k_is)
    (case z_str => k_is)
    (case z_tuple => k_is)
    (case z_zip => k_is)
    (case nd => decide)
end
